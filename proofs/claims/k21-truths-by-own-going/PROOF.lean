import PyProof.Rows.All
import Wide.All
import OpenK.AllK
import Wide.FinOn
import PySem.Challenge.RW_onlycompared_k21_truths_by_own_going
import HandS.ForMost
import HandS.ForExc
import HandS.Wide
import HandS.Gcd
import HandS.Deep
import HandS.Style
import HandS.IsInst
import HandS.TryMany
import HandS.TupLe
import HandS.Conv
import HandS.Lambda
import HandS.EndTab
import HandS.HeadWalk
import HandS.TupAny
import HandS.Flow
import HandS.Comp
import HandS.Iter
import KE.KMathGC
import KE.GoesMore
import KE.GoesComp
import KE.KDictKeyed
import KE.KDictList
import HandS.DictComp
import KE.SortKeyHeap
import KE.KSortKey
import PyProof.Rows.CallKw2
import HandS.Zip
import KE.GoesEnum
import HandS.ExcInit
import HandS.ExcField
import HandS.RaiseMore
import HandS.WordsExc
import HandS.Defaults
import PyProof.Rows.StrJoinMade
import HandS.TryOnly
import HandS.ExcIs
import HandS.Head0
import HandS.Head1
import HandS.Head2
import HandS.HeadEnd
import HandS.HeadHook1
import HandS.HeadHook2
import HandS.Head3
import KE.KNestM
set_option Elab.async false
set_option linter.all false
set_option maxRecDepth 100000
set_option maxHeartbeats 4000000
/-! PiA: a pure interpreter for a part of the language: data by value, lists owned or shared. -/
namespace Pi
open PySem

/-- data, by value -/
inductive D where
  | non | bl (b : Bool) | int (i : Int) | str (s : Str) | tup (xs : List D) | lst (xs : List D)
  deriving Inhabited

/-- a slot: nothing known; a value that is shared (never changed from now on); one that is owned (true: made in this def) -/
inductive Sl where
  | no | sh (d : D) | ow (l : Bool) (d : D)
  deriving Inhabited
abbrev Env := List Sl

/-- an error: its class by number, what it was made with -/
structure Exc where
  cls : Nat
  fld : Option (Str × D) := none

inductive Res (α : Type) where
  | ok (a : α) (env : Env) | ex (x : Exc) (env : Env) | bad
def Res.bind {α β : Type} (r : Res α) (f : α → Env → Res β) : Res β := match r with
  | .ok a env => f a env
  | .ex x env => .ex x env
  | .bad => .bad
@[simp] theorem Res.bind_ok {α β : Type} (a : α) (env : Env) (f : α → Env → Res β) : Res.bind (.ok a env) f = f a env := rfl
@[simp] theorem Res.bind_ex {α β : Type} (x : Exc) (env : Env) (f : α → Env → Res β) : Res.bind (.ex x env) f = .ex x env := rfl
@[simp] theorem Res.bind_bad {α β : Type} (f : α → Env → Res β) : Res.bind .bad f = .bad := rfl

/-- what a call hands back: the value, whether it is new, the parameters' slots behind it -/
inductive CRes where
  | ok (d : D) (fr : Bool) (ps : List Sl) | ex (x : Exc) | bad

inductive Bop where | add | sub | mul | fdiv | mod | pow
  deriving DecidableEq
inductive Cop where | eq | ne | lt | le | gt | ge | is | isnot | isin | notin
  deriving DecidableEq
inductive Ty where | int | bool | str | tuple | list
  deriving DecidableEq
inductive Bi where | len | abs | int | gcd | lcm | max | min | all | any | sum | list | tuple
  deriving DecidableEq
inductive ItK where | seq | range | enum | zip
  deriving DecidableEq
inductive Tg where | name (i : Nat) | tup (is : List Nat)

inductive E where
  | var (i : Nat)
  | con (d : D)
  | glo (i : Nat)
  | bin (o : Bop) (a b : E)
  | cmp (o : Cop) (a b : E)
  | neg (a : E)
  | not (a : E)
  | and (a b : E)
  | or (a b : E)
  | ite (c a b : E)
  | tup (es : List E)
  | lst (es : List E)
  | ix (a i : E)
  | cut (a lo hi : E)
  | rev (a : E)
  | bi (f : Bi) (es : List E)
  | isin (a : E) (ts : List Ty)
  | exis (i : Nat) (c : Nat)
  | call (f : Nat) (es : List E) (pm : List Nat)
  | lc (elt : E) (own : List Nat) (tg : Tg) (k : ItK) (es : List E) (conds : List E)
  | rng (t : Bool) (es : List E)
  | chn (o o' : Cop) (a b c : E)
  | idx (a b : E)
  | gdx (g : Nat) (e : E)
  | uniq (a : E)
  | sortk (a : E) (m : Nat)
  | lc2 (elt : E) (own : List Nat) (tg : Tg) (k : ItK) (es conds : List E) (tg1 : Tg) (k1 : ItK) (es1 conds1 : List E)

/-- statements of an except suite, expressions of it (i: the name of the error) -/
inductive XE where
  | con (d : D)
  | isin (c : Nat)
  | fld (f : Str)
  | tup (es : List XE)
  | ite (c a b : XE)
inductive XS where
  | asg (i : Nat) (e : XE)
inductive S where
  | asg (tg : Tg) (e : E)
  | par (is : List Nat) (es : List E)
  | set (x : Nat) (i e : E)
  | app (x : Nat) (e : E)
  | ext (x : Nat) (e : E)
  | aug (i : Nat) (o : Bop) (e : E)
  | expr (e : E)
  | ret (e : E)
  | retN
  | ite (c : E) (a b : List S)
  | whl (c : E) (b : List S)
  | fo (tg : Tg) (k : ItK) (es : List E) (b : List S)
  | pass
  | brk
  | cnt
  | raise (c : Nat)
  | raisE (c : Nat) (f : Str) (e : E)
  | tr (b : List S) (hs : List (Nat × Option Nat × List XS))

/-! ### operations on data -/
mutual
def D.eqb : D → D → Bool
  | .non, .non => true
  | .bl a, .bl b => a == b
  | .bl a, .int j => (if a then 1 else 0) == j
  | .int i, .bl b => i == (if b then 1 else 0)
  | .int i, .int j => i == j
  | .str x, .str y => x == y
  | .tup xs, .tup ys => D.eqbs xs ys
  | .lst xs, .lst ys => D.eqbs xs ys
  | _, _ => false
def D.eqbs : List D → List D → Bool
  | [], [] => true
  | x :: xs, y :: ys => D.eqb x y && D.eqbs xs ys
  | _, _ => false
end
mutual
def D.depth : D → Nat
  | .tup xs => D.depths xs + 1
  | .lst xs => D.depths xs + 1
  | _ => 0
def D.depths : List D → Nat
  | [] => 0
  | x :: xs => max (D.depth x) (D.depths xs)
end
def D.truth : D → Bool
  | .non => false
  | .bl b => b
  | .int i => i != 0
  | .str s => (s.length : Int) != 0
  | .tup xs => !xs.isEmpty
  | .lst xs => !xs.isEmpty

def mulOk (i j : Int) : Prop := i.natAbs.log2 + j.natAbs.log2 < 1000000 ∨ i.natAbs.log2 < 60 ∨ j.natAbs.log2 < 60
instance (i j : Int) : Decidable (mulOk i j) := inferInstanceAs (Decidable (_ ∨ _ ∨ _))
def divOk (j : Int) : Prop := 0 < j ∧ j.natAbs.log2 < 9000
instance (j : Int) : Decidable (divOk j) := inferInstanceAs (Decidable (_ ∧ _))

def opD : Bop → D → D → Option (D × Bool)
  | .add, .int i, .int j => some (.int (i + j), false)
  | .add, .tup xs, .tup ys => if xs.length + ys.length ≤ 100000 then some (.tup (xs ++ ys), false) else none
  | .add, .lst xs, .lst ys => if xs.length + ys.length ≤ 100000 then some (.lst (xs ++ ys), true) else none
  | .sub, .int i, .int j => some (.int (i - j), false)
  | .mul, .int i, .int j => if mulOk i j then some (.int (i * j), false) else none
  | .mul, .lst xs, .int j => if 0 ≤ j ∧ j ≤ 1000 ∧ xs.length ≤ 100 then some (.lst (List.replicate j.toNat xs).flatten, true) else none
  | .fdiv, .int i, .int j => if divOk j then some (.int (i / j), false) else if j < 0 ∧ j.natAbs.log2 < 9000 then some (.int (i.fdiv j), false) else none
  | .mod, .int i, .int j => if 0 < j then some (.int (i % j), false) else none
  | .pow, .int i, .int j => if 0 ≤ j ∧ j ≤ 1000 ∧ i.natAbs < 1000000 then some (.int (i ^ j.toNat), false) else none
  | _, _, _ => none

def cmpD : Cop → D → D → Option Bool
  | .eq, x, y => if x.depth ≤ 64 ∧ y.depth ≤ 64 then some (x.eqb y) else none
  | .ne, x, y => if x.depth ≤ 64 ∧ y.depth ≤ 64 then some (!x.eqb y) else none
  | .lt, .int i, .int j => some (decide (i < j))
  | .le, .int i, .int j => some (decide (i ≤ j))
  | .gt, .int i, .int j => some (decide (j < i))
  | .ge, .int i, .int j => some (decide (j ≤ i))
  | .is, .non, .non => some true
  | .is, .bl a, .bl b => some (a == b)
  | .is, _, .non => some false
  | .isnot, .non, .non => some false
  | .isnot, .bl a, .bl b => some (!(a == b))
  | .isnot, _, .non => some true
  | .is, .non, .bl _ => some false
  | .isnot, .non, .bl _ => some true
  | .isin, x, .lst ys => if x.depth ≤ 63 ∧ D.depths ys ≤ 63 then some (ys.any fun y => y.eqb x) else none
  | .notin, x, .lst ys => if x.depth ≤ 63 ∧ D.depths ys ≤ 63 then some (!ys.any fun y => y.eqb x) else none
  | .isin, x, .tup ys => if x.depth ≤ 63 ∧ D.depths ys ≤ 63 then some (ys.any fun y => y.eqb x) else none
  | .notin, x, .tup ys => if x.depth ≤ 63 ∧ D.depths ys ≤ 63 then some (!ys.any fun y => y.eqb x) else none
  | _, _, _ => none

def allInts : List D → Option (List Int)
  | [] => some []
  | .int i :: r => (allInts r).map (i :: ·)
  | _ :: _ => none
def allBls : List D → Option (List Bool)
  | [] => some []
  | .bl b :: r => (allBls r).map (b :: ·)
  | _ :: _ => none

def biD : Bi → List D → Option (D × Bool)
  | .len, [.lst xs] => some (.int xs.length, false)
  | .len, [.tup xs] => some (.int xs.length, false)
  | .abs, [.int i] => some (.int (if i < 0 then -i else i), false)
  | .int, [.int i] => some (.int i, false)
  | .int, [.bl b] => some (.int (if b then 1 else 0), false)
  | .gcd, [.int i, .int j] => some (.int (Nat.gcd i.natAbs j.natAbs : Nat), false)
  | .lcm, [.int i, .int j] => if i.natAbs.log2 < 9000 ∧ j.natAbs.log2 < 9000 then some (.int (Nat.lcm i.natAbs j.natAbs : Nat), false) else none
  | .max, [.int i, .int j] => some (.int (if i < j then j else i), false)
  | .min, [.int i, .int j] => some (.int (if j < i then j else i), false)
  | .all, [.lst xs] => (allBls xs).map fun bs => (.bl (bs.all id), false)
  | .any, [.lst xs] => (allBls xs).map fun bs => (.bl (bs.any id), false)
  | .sum, [.lst xs] => (allInts xs).map fun is => (.int is.sum, false)
  | .list, [.lst xs] => some (.lst xs, true)
  | .list, [.tup xs] => some (.lst xs, true)
  | .tuple, [.lst xs] => some (.tup xs, false)
  | .tuple, [.tup xs] => some (.tup xs, false)
  | _, _ => none

def idxD (xs : List D) (y : D) : Option (D × Bool) := if y.depth ≤ 63 ∧ D.depths xs ≤ 63 then (xs.findIdx? fun x => x.eqb y).map fun j => (.int (j : Nat), false) else none
def dicD (kvs : List (List Int × Int)) : D → Option (D × Bool)
  | .tup ds => (allInts ds).bind fun ks => (kvs.lookup ks).map fun v => (.int v, false)
  | _ => none
def ixD : D → D → Option D
  | .lst xs, .int i => L2.atI xs i
  | .tup xs, .int i => L2.atI xs i
  | _, _ => none
def cutL {α : Type} (xs : List α) (lo hi : Option Int) : List α := (xs.drop (HT.sIx xs.length 0 lo)).take (HT.sIx xs.length xs.length hi - HT.sIx xs.length 0 lo)
def cutD : D → Option Int → Option Int → Option (D × Bool)
  | .lst xs, a, b => some (.lst (cutL xs a b), true)
  | .tup xs, a, b => some (.tup (cutL xs a b), false)
  | _, _, _ => none
/-- each where it first stands -/
def uniqL : List D → List D → List D
  | acc, [] => acc
  | acc, d :: r => uniqL (if acc.any fun y => y.eqb d then acc else acc ++ [d]) r
def intTup : D → Option (List Int)
  | .tup ds => allInts ds
  | _ => none
def uniqD : D → Option (D × Bool)
  | .lst xs => if (xs.all fun d => (intTup d).isSome) = true ∧ xs.length ≤ 100000 then some (.lst (uniqL [] xs), true) else none
  | .tup xs => if (xs.all fun d => (intTup d).isSome) = true ∧ xs.length ≤ 100000 then some (.lst (uniqL [] xs), true) else none
  | _ => none
/-- number[0] * (m // number[1]) -/
def keyN (m : Int) : D → Option Int
  | .tup [.int t, .int b] => if divOk b ∧ mulOk t (m / b) then some (t * (m / b)) else none
  | _ => none
def sortN (m : Int) (xs : List D) : List D := xs.mergeSort fun x y => decide ((keyN m x).getD 0 ≤ (keyN m y).getD 0)
def sortkD (m : Int) : D → Option (D × Bool)
  | .lst xs => if (xs.all fun d => (keyN m d).isSome) = true ∧ xs.length ≤ 100000 then some (.lst (sortN m xs), true) else none
  | _ => none
def revD : D → Option (D × Bool)
  | .lst xs => some (.lst xs.reverse, true)
  | .tup xs => some (.tup xs.reverse, false)
  | _ => none

def tyD : D → Ty → Bool
  | .int _, .int => true
  | .bl _, .int => true
  | .bl _, .bool => true
  | .str _, .str => true
  | .tup _, .tuple => true
  | .lst _, .list => true
  | _, _ => false

def rangeD (lo : Int) (n : Nat) : List D := (List.range n).map fun (k : Nat) => D.int (lo + k)
def rngOk (i : Int) : Bool := decide (-(2 ^ 62) ≤ i) && decide (i < 2 ^ 62)
def iterD : ItK → List D → Option (List D)
  | .seq, [.lst xs] => some xs
  | .seq, [.tup xs] => some xs
  | .range, [.int n] => if rngOk n then some (rangeD 0 n.toNat) else none
  | .range, [.int a, .int b] => if rngOk a && rngOk b then some (rangeD a (b - a).toNat) else none
  | .enum, [.lst xs] => some ((List.range xs.length).zipWith (fun (k : Nat) x => D.tup [.int k, x]) xs)
  | .enum, [.tup xs] => some ((List.range xs.length).zipWith (fun (k : Nat) x => D.tup [.int k, x]) xs)
  | .zip, [.lst xs, .lst ys] => some (List.zipWith (fun x y => D.tup [x, y]) xs ys)
  | .zip, [.tup xs, .tup ys] => some (List.zipWith (fun x y => D.tup [x, y]) xs ys)
  | _, _ => none

/-- what an error may be made with -/
def fldOk : D → Bool
  | .int i => decide (-1 ≤ i) && decide (i < 1000000000)
  | .str s => decide (s.length ≤ 100000)
  | _ => false
/-! ### arguments -/
/-- an argument: a value, or a slot (its content is read when the operation is done) -/
inductive Arg where | val (d : D) | slot (i : Nat)
def Arg.peek (env : Env) : Arg → Option D
  | .val d => some d
  | .slot i => match env[i]? with
    | some (.sh d) => some d
    | some (.ow _ d) => some d
    | _ => none
def peeks (env : Env) : List Arg → Option (List D)
  | [] => some []
  | x :: xs => (x.peek env).bind fun d => (peeks env xs).map (d :: ·)
def argOf (e : E) (r : Res (D × Bool)) (env : Env) : Res Arg := match e with
  | .var i => match env[i]? with
    | some (.sh _) => .ok (.slot i) env
    | some (.ow _ _) => .ok (.slot i) env
    | _ => .bad
  | _ => r.bind fun d env' => .ok (.val d.1) env'
/-- a part of a slice: nothing, or an int -/
def partOf (e : E) (r : Res (D × Bool)) (env : Env) : Res (Option Int) := match e with
  | .con .non => .ok none env
  | _ => r.bind fun y e1 => match y.1 with
    | .int i => .ok (some i) e1
    | _ => .bad
def pureR {α : Type} (o : Option α) (env : Env) : Res α := match o with
  | some a => .ok a env
  | none => .bad
@[simp] theorem pureR_some {α : Type} (a : α) (env : Env) : pureR (some a) env = .ok a env := rfl
@[simp] theorem pureR_none {α : Type} (env : Env) : pureR (none : Option α) env = .bad := rfl

/-- what is walked is shared from then on -/
def shares : List Arg → Env → Env
  | [], env => env
  | .slot i :: r, env => match env[i]? with
    | some (.ow _ d) => shares r (env.set i (.sh d))
    | _ => shares r env
  | .val _ :: r, env => shares r env
/-- the items that are walked -/
def walkB (k : ItK) (xs : List Arg) (env : Env) : Res (List D) := match peeks env xs with
  | none => .bad
  | some ds => match iterD k ds with
    | none => .bad
    | some items => .ok items (shares xs env)
/-- the slots of the arguments of a call, what was taken from where -/
def takes : List (Arg × Bool) → Env → Option (List Sl × List (Option (Nat × Bool)) × Env)
  | [], env => some ([], [], env)
  | (.val d, _) :: r, env => (takes r env).map fun (a, t, e) => (.sh d :: a, none :: t, e)
  | (.slot i, b) :: r, env => match env[i]? with
    | some (.sh d) => (takes r env).map fun (a, t, e) => (.sh d :: a, none :: t, e)
    | some (.ow l d) => if b then (takes r (env.set i .no)).map fun (a, t, e) => (.ow false d :: a, some (i, l) :: t, e)
        else (takes r (env.set i (.sh d))).map fun (a, t, e) => (.sh d :: a, none :: t, e)
    | _ => none
def gives : List (Option (Nat × Bool)) → List Sl → Env → Env
  | some (i, l) :: t, .ow _ d :: ps, env => gives t ps (env.set i (.ow l d))
  | some (i, _) :: t, .sh d :: ps, env => gives t ps (env.set i (.sh d))
  | _ :: t, _ :: ps, env => gives t ps env
  | _, _, env => env

/-- a def: how many parameters, how many slots, which parameters are never stored, its body -/
structure Fn where
  np : Nat
  nl : Nat
  bor : List Bool
  body : List S
abbrev Table := List Fn

/-- storing -/
def storeT : List Nat → List D → Env → Option Env
  | [], [], env => some env
  | i :: is, d :: ds, env => if i < env.length then storeT is ds (env.set i (.sh d)) else none
  | _, _, _ => none
def Tg.slots : Tg → List Nat
  | .name i => [i]
  | .tup is => is
def Tg.store (tg : Tg) (d : D) (fr : Bool) (env : Env) : Option Env := match tg with
  | .name i => if i < env.length then some (env.set i (if fr then .ow true d else .sh d)) else none
  | .tup is => match d with
    | .tup ds => storeT is ds env
    | .lst ds => storeT is ds env
    | _ => none
def wipeE (env : Env) : List Nat → Env
  | [] => env
  | v :: vs => (wipeE env vs).set v .no
/-- the slots own as they stand in old -/
def backE (old env : Env) : List Nat → Env
  | [] => env
  | v :: vs => (backE old env vs).set v (old.getD v .no)

def lcLoop (f : D → Env → Res (Option D)) : List D → Env → List D → Res (List D)
  | [], env, acc => .ok acc env
  | x :: xs, env, acc => (f x env).bind fun o env' => match o with
    | some d => if acc.length < 100000 then lcLoop f xs env' (acc ++ [d]) else .bad
    | none => lcLoop f xs env' acc

/-- two clauses: what an item of the first one adds -/
def lcLoop2 (f : D → Env → List D → Res (List D)) : List D → Env → List D → Res (List D)
  | [], env, acc => .ok acc env
  | x :: xs, env, acc => (f x env acc).bind fun acc' env' => lcLoop2 f xs env' acc'
structure Lib where
  C : Nat → List Sl → CRes
  bor : Nat → List Bool
  con : Nat → Option D
  sub : Nat → Nat → Bool
  dic : Nat → Option (List (List Int × Int))

def doCall (L : Lib) (f : Nat) (xs : List Arg) (pm : List Nat) (env : Env) : Res (D × Bool) :=
  match takes ((pm.map fun k => xs.getD k (.val .non)).zip (L.bor f)) env with
  | none => .bad
  | some (args, t, env') => match L.C f args with
    | .ok d fr ps => .ok (d, fr) (gives t ps env')
    | .ex x => .ex x env'
    | .bad => .bad

mutual
def eval (L : Lib) : E → Env → Res (D × Bool)
  | .var i, env => match env[i]? with
    | some (.sh d) => .ok (d, false) env
    | some (.ow _ d) => .ok (d, false) (env.set i (.sh d))
    | _ => .bad
  | .con d, env => .ok (d, false) env
  | .glo i, env => pureR ((L.con i).map fun d => (d, false)) env
  | .bin o a b, env => (argOf a (eval L a env) env).bind fun x env1 => (argOf b (eval L b env1) env1).bind fun y env2 =>
      pureR ((x.peek env2).bind fun d => (y.peek env2).bind fun e => opD o d e) env2
  | .cmp o a b, env => (argOf a (eval L a env) env).bind fun x env1 => (argOf b (eval L b env1) env1).bind fun y env2 =>
      pureR ((x.peek env2).bind fun d => (y.peek env2).bind fun e => (cmpD o d e).map fun k => (.bl k, false)) env2
  | .neg a, env => (argOf a (eval L a env) env).bind fun x env1 => match x.peek env1 with
      | some (.int i) => .ok (.int (-i), false) env1
      | _ => .bad
  | .not a, env => (argOf a (eval L a env) env).bind fun x env1 => match x.peek env1 with
      | some d => .ok (.bl (!d.truth), false) env1
      | _ => .bad
  | .and a b, env => (eval L a env).bind fun x env1 => if x.1.truth then eval L b env1 else .ok (x.1, false) env1
  | .or a b, env => (eval L a env).bind fun x env1 => if x.1.truth then .ok (x.1, false) env1 else eval L b env1
  | .ite c a b, env => (argOf c (eval L c env) env).bind fun x env1 => match x.peek env1 with
      | some d => if d.truth then eval L a env1 else eval L b env1
      | _ => .bad
  | .tup es, env => (evals L es env).bind fun ds env1 => .ok (.tup ds, false) env1
  | .lst es, env => (evals L es env).bind fun ds env1 => .ok (.lst ds, true) env1
  | .ix a i, env => (argOf a (eval L a env) env).bind fun x env1 => (argOf i (eval L i env1) env1).bind fun y env2 =>
      pureR ((x.peek env2).bind fun d => (y.peek env2).bind fun e => (ixD d e).map fun r => (r, false)) env2
  | .cut a lo hi, env => (argOf a (eval L a env) env).bind fun x env1 => (partOf lo (eval L lo env1) env1).bind fun l env2 => (partOf hi (eval L hi env2) env2).bind fun h env3 =>
      pureR ((x.peek env3).bind fun d => cutD d l h) env3
  | .rev a, env => (argOf a (eval L a env) env).bind fun x env1 => pureR ((x.peek env1).bind revD) env1
  | .bi f es, env => (args L es env).bind fun xs env1 => pureR ((peeks env1 xs).bind fun ds => biD f ds) env1
  | .isin a ts, env => (argOf a (eval L a env) env).bind fun x env1 => pureR ((x.peek env1).map fun d => (.bl (ts.any (tyD d)), false)) env1
  | .exis _ _, _ => .bad
  | .call f es pm, env => (args L es env).bind fun xs env1 => doCall L f xs pm env1
  | .lc elt own tg k es conds, env => ((args L es env).bind (walkB k)).bind fun items env1 =>
        match lcLoop (fun d e => match tg.store d false e with
            | none => .bad
            | some e1 => (holds L conds e1).bind fun b e2 => if b then (eval L elt e2).bind fun r e3 => .ok (some r.1) (wipeE e3 own) else .ok none (wipeE e2 own)) items (wipeE env1 own) [] with
        | .ok ds env2 => .ok (.lst ds, true) (backE env1 env2 own)
        | _ => .bad
  | .rng t es, env => (evals L es env).bind fun ds env1 => pureR ((iterD .range ds).bind fun items => if items.length ≤ 100000 then some (if t then (.tup items, false) else (.lst items, true)) else none) env1
  | .chn o o' a b c, env => (eval L a env).bind fun x env1 => (eval L b env1).bind fun y env2 => match cmpD o x.1 y.1 with
      | none => .bad
      | some false => .ok (.bl false, false) env2
      | some true => (eval L c env2).bind fun z env3 => pureR ((cmpD o' y.1 z.1).map fun k => (.bl k, false)) env3
  | .idx a b, env => (eval L a env).bind fun x env1 => match x.1 with
      | .lst xs => (eval L b env1).bind fun y env2 => pureR (idxD xs y.1) env2
      | _ => .bad
  | .uniq a, env => (argOf a (eval L a env) env).bind fun x env1 => pureR ((x.peek env1).bind uniqD) env1
  | .sortk a m, env => (argOf a (eval L a env) env).bind fun x env1 => match env1[m]? with
      | some (.sh (.int k)) => pureR ((x.peek env1).bind (sortkD k)) env1
      | _ => .bad
  | .lc2 elt own tg k es conds tg1 k1 es1 conds1, env => ((args L es env).bind (walkB k)).bind fun items env1 =>
        match lcLoop2 (fun d e acc => match tg.store d false e with
            | none => .bad
            | some e1 => (holds L conds e1).bind fun b e2 => if b then
                ((args L es1 e2).bind (walkB k1)).bind fun items1 e3 =>
                  (lcLoop (fun d e => match tg1.store d false e with
                    | none => .bad
                    | some e1 => (holds L conds1 e1).bind fun b e2 => if b then (eval L elt e2).bind fun r e3 => .ok (some r.1) (wipeE e3 tg1.slots) else .ok none (wipeE e2 tg1.slots)) items1 (wipeE e3 tg1.slots) acc).bind fun acc' e4 => .ok acc' (wipeE e4 own)
              else .ok acc (wipeE e2 own)) items (wipeE env1 own) [] with
        | .ok ds env2 => .ok (.lst ds, true) (backE env1 env2 own)
        | _ => .bad
  | .gdx g e, env => (eval L e env).bind fun x env1 => pureR ((L.dic g).bind fun kvs => dicD kvs x.1) env1
def evals (L : Lib) : List E → Env → Res (List D)
  | [], env => .ok [] env
  | e :: es, env => (eval L e env).bind fun d env1 => (evals L es env1).bind fun ds env2 => .ok (d.1 :: ds) env2
def args (L : Lib) : List E → Env → Res (List Arg)
  | [], env => .ok [] env
  | e :: es, env => (argOf e (eval L e env) env).bind fun x env1 => (args L es env1).bind fun xs env2 => .ok (x :: xs) env2
def holds (L : Lib) : List E → Env → Res Bool
  | [], env => .ok true env
  | e :: es, env => (argOf e (eval L e env) env).bind fun x env1 => match x.peek env1 with
      | some d => if d.truth then holds L es env1 else .ok false env1
      | _ => .bad
end

/-- the values and whether they are new -/
def evalsF (L : Lib) : List E → Env → Res (List (D × Bool))
  | [], env => .ok [] env
  | e :: es, env => (eval L e env).bind fun d env1 => (evalsF L es env1).bind fun ds env2 => .ok (d :: ds) env2
def storeF : List Nat → List (D × Bool) → Env → Option Env
  | [], [], env => some env
  | i :: is, (d, fr) :: ds, env => if i < env.length then storeF is ds (env.set i (if fr then .ow true d else .sh d)) else none
  | _, _, _ => none
inductive Fl where | nx | rt (d : D) (fr : Bool) | bk | ct
def whLoop (c : Env → Res Bool) (b : Env → Res Fl) : Nat → Env → Res Fl
  | 0, _ => .bad
  | n + 1, env => (c env).bind fun k env1 => if k then (b env1).bind fun f env2 => match f with
      | .nx => whLoop c b n env2
      | .ct => whLoop c b n env2
      | .bk => .ok .nx env2
      | .rt d fr => .ok (.rt d fr) env2
    else .ok .nx env1
def foLoop (b : D → Env → Res Fl) : List D → Env → Res Fl
  | [], env => .ok .nx env
  | x :: xs, env => (b x env).bind fun f env2 => match f with
      | .nx => foLoop b xs env2
      | .ct => foLoop b xs env2
      | .bk => .ok .nx env2
      | .rt d fr => .ok (.rt d fr) env2
/-- how many turns a while may take -/
def turns : Nat := 1000000000
mutual
def evalX (L : Lib) (x : Exc) : XE → Option D
  | .con d => some d
  | .isin c => if x.fld.isNone = true then some (.bl (L.sub x.cls c)) else none
  | .fld f => x.fld.bind fun p => if p.1 = f then some p.2 else none
  | .tup es => (evalXs L x es).map .tup
  | .ite c a b => (evalX L x c).bind fun d => if d.truth then evalX L x a else evalX L x b
def evalXs (L : Lib) (x : Exc) : List XE → Option (List D)
  | [] => some []
  | e :: es => (evalX L x e).bind fun d => (evalXs L x es).map (d :: ·)
end
def execX (L : Lib) (x : Exc) : List XS → Env → Res Fl
  | [], env => .ok .nx env
  | .asg i e :: r, env => match evalX L x e with
    | some d => if i < env.length then execX L x r (env.set i (.sh d)) else .bad
    | none => .bad
def catchX (L : Lib) (x : Exc) : List (Nat × Option Nat × List XS) → Env → Res Fl
  | [], env => .ex x env
  | (c, n, h) :: r, env => if L.sub x.cls c then
      match n with
      | none => execX L x h env
      | some i => if i < env.length then (execX L x h (env.set i .no)).bind fun f env1 => .ok f (env1.set i .no) else .bad
    else catchX L x r env

mutual
def exec (L : Lib) : S → Env → Res Fl
  | .asg tg e, env => (eval L e env).bind fun d env1 => (pureR (tg.store d.1 d.2 env1) env1).bind fun env2 _ => .ok .nx env2
  | .par is es, env => (evalsF L es env).bind fun ds env1 => (pureR (storeF is ds env1) env1).bind fun env2 _ => .ok .nx env2
  | .set x i e, env => (eval L e env).bind fun d env1 => match env1[x]? with
      | some (.ow _ _) => (argOf i (eval L i env1) env1).bind fun y env2 => match env2[x]? with
        | some (.ow l (.lst xs)) => match y.peek env2 with
          | some (.int k) => match L2.ixN xs.length k with
            | some j => .ok .nx (env2.set x (.ow l (.lst (xs.set j d.1))))
            | none => .bad
          | _ => .bad
        | _ => .bad
      | _ => .bad
  | .app x e, env => match env[x]? with
      | some (.ow _ (.lst _)) => (eval L e env).bind fun d env1 => match env1[x]? with
        | some (.ow l (.lst xs)) => if xs.length < 100000 then .ok .nx (env1.set x (.ow l (.lst (xs ++ [d.1])))) else .bad
        | _ => .bad
      | _ => .bad
  | .ext x e, env => match env[x]? with
      | some (.ow _ (.lst _)) => (eval L e env).bind fun d env1 => match env1[x]? with
        | some (.ow l (.lst xs)) => match d.1 with
          | .lst ys => if xs.length + ys.length ≤ 100000 then .ok .nx (env1.set x (.ow l (.lst (xs ++ ys)))) else .bad
          | _ => .bad
        | _ => .bad
      | _ => .bad
  | .aug i o e, env => match env[i]? with
      | some (.sh (.int a)) => (argOf e (eval L e env) env).bind fun y env1 => match y.peek env1 with
        | some (.int b) => match o with
          | .add => if i < env1.length then .ok .nx (env1.set i (.sh (.int (a + b)))) else .bad
          | .sub => if i < env1.length then .ok .nx (env1.set i (.sh (.int (a - b)))) else .bad
          | _ => .bad
        | _ => .bad
      | _ => .bad
  | .expr e, env => (eval L e env).bind fun _ env1 => .ok .nx env1
  | .ret e, env => match e with
    | .var i => match env[i]? with
      | some (.ow true d) => .ok (.rt d true) (env.set i .no)
      | some (.ow false d) => .ok (.rt d false) (env.set i (.sh d))
      | some (.sh d) => .ok (.rt d false) env
      | _ => .bad
    | _ => (eval L e env).bind fun d env1 => .ok (.rt d.1 d.2) env1
  | .retN, env => .ok (.rt .non false) env
  | .ite c a b, env => (argOf c (eval L c env) env).bind fun x env1 => match x.peek env1 with
      | some d => if d.truth then execs L a env1 else execs L b env1
      | _ => .bad
  | .whl c b, env => whLoop (fun e => (argOf c (eval L c e) e).bind fun x env1 => pureR ((x.peek env1).map D.truth) env1) (fun e => execs L b e) turns env
  | .fo tg k es b, env => ((args L es env).bind (walkB k)).bind fun items env1 => foLoop (fun d e => match tg.store d false e with
          | none => .bad
          | some e1 => execs L b e1) items env1
  | .pass, env => .ok .nx env
  | .brk, env => .ok .bk env
  | .cnt, env => .ok .ct env
  | .raise c, env => .ex ⟨c, none⟩ env
  | .raisE c f e, env => (eval L e env).bind fun d env1 => if fldOk d.1 then .ex ⟨c, some (f, d.1)⟩ env1 else .bad
  | .tr b hs, env => match execs L b env with
      | .ex x env1 => catchX L x hs env1
      | r => r
def execs (L : Lib) : List S → Env → Res Fl
  | [], env => .ok .nx env
  | s :: ss, env => (exec L s env).bind fun f env1 => match f with
      | .nx => execs L ss env1
      | f => .ok f env1
end

structure Pg where
  G : Table
  con : List D
  sub : List (List Bool)
  dic : List (List (List Int × Int))
def Pg.lib (P : Pg) (C : Nat → List Sl → CRes) : Lib where
  C := C
  bor := fun f => match P.G[f]? with | some fn => fn.bor | none => []
  con := fun i => P.con[i]?
  sub := fun a b => (P.sub.getD a []).getD b false
  dic := fun i => P.dic[i]?
/-- what is owned may be handed in where the parameter is never stored -/
def borOk : List Sl → List Bool → Bool
  | [], _ => true
  | .ow _ _ :: r, b :: bs => b && borOk r bs
  | .ow _ _ :: _, [] => false
  | .sh _ :: r, bs => borOk r bs.tail
  | .no :: r, bs => borOk r bs.tail
/-- how a body ends -/
def outF (np : Nat) : Res Fl → CRes
  | .ok (.rt d fr) env => if np ≤ env.length then .ok d fr (env.take np) else .bad
  | .ok .nx env => if np ≤ env.length then .ok .non false (env.take np) else .bad
  | .ok _ _ => .bad
  | .ex x _ => .ex x
  | .bad => .bad
def callF (P : Pg) : Nat → Nat → List Sl → CRes
  | 0, _, _ => .bad
  | n + 1, f, as => match P.G[f]? with
    | none => .bad
    | some fn => if as.length = fn.np ∧ borOk as fn.bor = true then
        outF fn.np (execs (P.lib (callF P n)) fn.body (as ++ List.replicate (fn.nl - fn.np) .no))
      else .bad
end Pi

set_option Elab.async false
set_option linter.all false
set_option maxRecDepth 100000
set_option maxHeartbeats 4000000
/-! PiB: how data lies in the abstract heap; what an evaluation may change. -/
namespace Pi
open PySem PySem.Spec PyProof.Rows L2

abbrev Sg := List (Option V)
mutual
/-- v is the datum d; no list in it lies at an address of U -/
inductive Rep (K : PySem.W.Frag) (U : Addr → Prop) (H : Hp) : V → D → Prop
  | non : Rep K U H .non .non
  | bl (b : Bool) : Rep K U H (.bl b) (.bl b)
  | int (i : Int) : Rep K U H (.int i) (.int i)
  | str (x : Str) (h : PyData.strOk x = true ∧ x.length ≤ 100000) : Rep K U H (.str x) (.str x)
  | tup {a : Addr} {xs : List V} {ds : List D} : SqT K H a xs → RepAll K U H xs ds → Rep K U H (.ref a) (.tup ds)
  | lst {a : Addr} {xs : List V} {ds : List D} : Rd H a (.lst xs) → ¬ U a → RepAll K U H xs ds → Rep K U H (.ref a) (.lst ds)
inductive RepAll (K : PySem.W.Frag) (U : Addr → Prop) (H : Hp) : List V → List D → Prop
  | nil : RepAll K U H [] []
  | cons {v : V} {vs : List V} {d : D} {ds : List D} : Rep K U H v d → RepAll K U H vs ds → RepAll K U H (v :: vs) (d :: ds)
end

/-- the tables of code objects that are known, each with the name of what is made there -/
class HasT where
  T : List (Addr × Str)
structure TabsIn (T : List (Addr × Str)) (H : Hp) : Prop where
  tabs : LamX.Tabs T H
abbrev TabsT [t : HasT] (H : Hp) : Prop := TabsIn t.T H
/-- no table -/
def NT (o : HO) : Prop := ∀ ps, o ≠ .tbl ps
theorem nt_lst {xs : List V} : NT (.lst xs) := fun _ z => by cases z
theorem nt_tup {xs : List V} : NT (.tup xs) := fun _ z => by cases z
theorem nt_frz {o : Obj} {x : HO} : NT (.frz o x) := fun _ z => by cases z
/-- all but lists stays: the tables do -/
theorem tabs_lst {T : List (Addr × Str)} {H H' : Hp} (k : ∀ b o, H b = some o → (∀ xs, o ≠ .lst xs) → H' b = some o) (h : LamX.Tabs T H) : LamX.Tabs T H' := fun p hp => by
  obtain ⟨ps, h1, h2, h3⟩ := h p hp
  refine ⟨ps, k _ _ h1 (fun xs z => by cases z), h2, fun pos cv hc => ?_⟩
  obtain ⟨c, e1, e2⟩ := h3 pos cv hc
  exact ⟨c, e1, k _ _ e2 fun xs z => by unfold LamX.CodeO at z; cases z⟩
theorem tabs_upd {T : List (Addr × Str)} {H : Hp} {a : Addr} {xs : List V} {o : HO} (e : H a = some (.lst xs)) (h : TabsIn T H) (ho : NT o) : TabsIn T (upd H a o) :=
  ⟨tabs_lst (fun b u eb n => by
    rw [upd_ne (fun z => n xs ?_)]
    · exact eb
    · rw [z, e] at eb; exact (Option.some.inj eb).symm) h.tabs⟩
theorem tabs_new {T : List (Addr × Str)} {H : Hp} {a : Addr} {o : HO} (e : H a = none) (h : TabsIn T H) (ho : NT o) : TabsIn T (upd H a o) :=
  ⟨h.tabs.ext fun b u eb => by rw [upd_ne (ne_of_none eb e)]; exact eb⟩
variable [HasT]
/-- O: what may change; U, U': the addresses that are owned -/
structure Tr (O U : Addr → Prop) (H : Hp) (U' : Addr → Prop) (H' : Hp) : Prop where
  keep : ∀ b o, H b = some o → ¬ O b → NT o → H' b = some o
  tab : TabsT H → TabsT H'
  live : ∀ b, H b ≠ none → H' b ≠ none
  sub : ∀ b, U' b → U b ∨ H b = none
  res : ∀ b, U b → ¬ O b → U' b
theorem Tr.refl (O U : Addr → Prop) (H : Hp) : Tr O U H U H := ⟨fun _ _ h _ _ => h, id, fun _ h => h, fun _ h => .inl h, fun _ h _ => h⟩

section
variable {K : PySem.W.Frag} {O U U' : Addr → Prop} {H H' : Hp}
mutual
theorem Rep.mono (t : Tr O U H U' H') (hO : ∀ a, O a → U a ∧ ∃ xs, H a = some (.lst xs)) : ∀ {v : V} {d : D}, Rep K U H v d → Rep K U' H' v d
  | _, _, .non => .non
  | _, _, .bl b => .bl b
  | _, _, .int i => .int i
  | _, _, .str x h => .str x h
  | _, _, .tup (a := a) hs ha => by
    refine .tup ?_ (RepAll.mono t hO ha)
    rcases hs with (h | ⟨o, h⟩) | h
    · refine .inl (.inl (t.keep _ _ h (fun z => ?_) nt_tup))
      obtain ⟨_, xs, e⟩ := hO _ z
      rw [h] at e; cases e
    · refine .inl (.inr ⟨o, t.keep _ _ h (fun z => ?_) nt_frz⟩)
      obtain ⟨_, xs, e⟩ := hO _ z
      rw [h] at e; cases e
    · exact .inr h
  | _, _, .lst (a := a) hs hu ha => by
    have nO : ¬ O a := fun z => hu (hO _ z).1
    refine .lst ?_ ?_ (RepAll.mono t hO ha)
    · rcases hs with h | ⟨o, h⟩
      · exact .inl (t.keep _ _ h nO nt_lst)
      · exact .inr ⟨o, t.keep _ _ h nO nt_frz⟩
    · intro z
      rcases t.sub _ z with z | z
      · exact hu z
      · rcases hs with h | ⟨o, h⟩ <;> (rw [h] at z; cases z)
theorem RepAll.mono (t : Tr O U H U' H') (hO : ∀ a, O a → U a ∧ ∃ xs, H a = some (.lst xs)) : ∀ {vs : List V} {ds : List D}, RepAll K U H vs ds → RepAll K U' H' vs ds
  | _, _, .nil => .nil
  | _, _, .cons h hs => .cons (Rep.mono t hO h) (RepAll.mono t hO hs)
end
end

def OwnRep (K : PySem.W.Frag) (U : Addr → Prop) (H : Hp) (a : Addr) : D → Prop
  | .lst ds => ∃ vs, H a = some (.lst vs) ∧ RepAll K U H vs ds
  | _ => False
theorem OwnRep.lst {K : PySem.W.Frag} {U : Addr → Prop} {H : Hp} {a : Addr} {d : D} (h : OwnRep K U H a d) : ∃ xs, H a = some (.lst xs) := by
  cases d <;> first | exact h.elim | (obtain ⟨vs, e, _⟩ := h; exact ⟨vs, e⟩)

/-- a is owned by a slot -/
def Own (σ : Sg) (env : Env) (a : Addr) : Prop := ∃ (i : Nat) (l : Bool) (d : D), env[i]? = some (.ow l d) ∧ σ[i]? = some (some (.ref a))

structure Gd (K : PySem.W.Frag) (F : Addr → Prop) (σ : Sg) (env : Env) (U : Addr → Prop) (H : Hp) : Prop where
  len : env.length = σ.length
  sh : ∀ (i : Nat) (d : D), env[i]? = some (.sh d) → ∃ v, σ[i]? = some (some v) ∧ Rep K U H v d
  ow : ∀ (i : Nat) (l : Bool) (d : D), env[i]? = some (.ow l d) → ∃ a, σ[i]? = some (some (.ref a)) ∧ U a ∧ OwnRep K U H a d ∧ (l = true → F a)
  inj : ∀ (i j : Nat) (l l' : Bool) (d d' : D) (a : Addr), env[i]? = some (.ow l d) → env[j]? = some (.ow l' d') → σ[i]? = some (some (.ref a)) → σ[j]? = some (some (.ref a)) → i = j
  live : ∀ b, U b → H b ≠ none
  frs : ∀ b, H b = none → F b
  tab : TabsT H
theorem Gd.hO {K F σ env U H} (g : Gd K F σ env U H) : ∀ a, Own σ env a → U a ∧ ∃ xs, H a = some (.lst xs) := fun a ⟨i, l, d, e, s⟩ => by
  obtain ⟨a', e1, u, o, _⟩ := g.ow i l d e
  rw [s] at e1
  cases e1
  exact ⟨u, o.lst⟩

structure Post (K : PySem.W.Frag) (F : Addr → Prop) (σ : Sg) (env : Env) (U : Addr → Prop) (H : Hp) (σ' : Sg) (env' : Env) (U' : Addr → Prop) (H' : Hp) : Prop where
  tr : Tr (Own σ env) U H U' H'
  good : Gd K F σ' env' U' H'
  own : ∀ b, Own σ' env' b → Own σ env b ∨ H b = none
theorem Post.refl {K F σ env U H} (g : Gd K F σ env U H) : Post K F σ env U H σ env U H := ⟨Tr.refl _ _ _, g, fun _ h => .inl h⟩
theorem Post.trans {K F σ env U H σ1 env1 U1 H1 σ2 env2 U2 H2} (g : Gd K F σ env U H) (p : Post K F σ env U H σ1 env1 U1 H1) (q : Post K F σ1 env1 U1 H1 σ2 env2 U2 H2) : Post K F σ env U H σ2 env2 U2 H2 := by
  have hn : ∀ b, H1 b = none → H b = none := fun b e => Classical.byContradiction fun z => p.tr.live b z e
  have nO : ∀ b o, H b = some o → ¬ Own σ env b → ¬ Own σ1 env1 b := fun b o e n z => by
    rcases p.own b z with y | y
    · exact n y
    · rw [e] at y; cases y
  refine ⟨⟨fun b o e n t => q.tr.keep b o (p.tr.keep b o e n t) (nO b o e n) t, fun h => q.tr.tab (p.tr.tab h), fun b e => q.tr.live b (p.tr.live b e), fun b u => ?_, fun b u n => ?_⟩, q.good, fun b o => ?_⟩
  · rcases q.tr.sub b u with z | z
    · exact p.tr.sub b z
    · exact .inr (hn b z)
  · refine q.tr.res b (p.tr.res b u n) ?_
    cases e : H b with
    | none => exact absurd e (g.live b u)
    | some o => exact nO b o e n
  · rcases q.own b o with z | z
    · exact p.own b z
    · exact .inr (hn b z)
theorem Post.rep {K F σ env U H σ' env' U' H'} (g : Gd K F σ env U H) (p : Post K F σ env U H σ' env' U' H') {v : V} {d : D} (r : Rep K U H v d) : Rep K U' H' v d := r.mono p.tr g.hO
theorem Post.reps {K F σ env U H σ' env' U' H'} (g : Gd K F σ env U H) (p : Post K F σ env U H σ' env' U' H') {v : List V} {d : List D} (r : RepAll K U H v d) : RepAll K U' H' v d := r.mono p.tr g.hO
theorem OwnRep.mono {K : PySem.W.Frag} {O U U' : Addr → Prop} {H H' : Hp} {a : Addr} (t : Tr O U H U' H') (hO : ∀ a, O a → U a ∧ ∃ xs, H a = some (.lst xs)) (n : ¬ O a) : ∀ {d : D}, OwnRep K U H a d → OwnRep K U' H' a d
  | .lst ds, ⟨vs, e, r⟩ => ⟨vs, t.keep _ _ e n nt_lst, r.mono t hO⟩

/-- a value that has come: shared, or (fr) a new list that nothing else holds -/
def VRep (K : PySem.W.Frag) (σ : Sg) (env' : Env) (U' : Addr → Prop) (H' H : Hp) (v : V) (d : D) : Bool → Prop
  | false => Rep K U' H' v d
  | true => ∃ a, v = .ref a ∧ U' a ∧ OwnRep K U' H' a d ∧ ¬ Own σ env' a ∧ H a = none

/-- the set without an address -/
def Wo (U : Addr → Prop) (a : Addr) : Addr → Prop := fun b => U b ∧ b ≠ a
section
variable {K : PySem.W.Frag} {F : Addr → Prop} {σ : Sg} {env env' : Env} {U U' : Addr → Prop} {H H' H0 : Hp} {a : Addr} {d : D}
mutual
theorem Rep.wo (a : Addr) : ∀ {v : V} {d : D}, Rep K U H v d → Rep K (Wo U a) H v d
  | _, _, .non => .non
  | _, _, .bl b => .bl b
  | _, _, .int i => .int i
  | _, _, .str x h => .str x h
  | _, _, .tup hs ha => .tup hs (RepAll.wo a ha)
  | _, _, .lst hs hu ha => .lst hs (fun z => hu z.1) (RepAll.wo a ha)
theorem RepAll.wo (a : Addr) : ∀ {vs : List V} {ds : List D}, RepAll K U H vs ds → RepAll K (Wo U a) H vs ds
  | _, _, .nil => .nil
  | _, _, .cons h hs => .cons (Rep.wo a h) (RepAll.wo a hs)
end
theorem OwnRep.wo (a : Addr) {b : Addr} : ∀ {d : D}, OwnRep K U H b d → OwnRep K (Wo U a) H b d
  | .lst _, ⟨vs, e, r⟩ => ⟨vs, e, r.wo a⟩
/-- what was owned is shared from now on -/
theorem OwnRep.share : ∀ {d : D}, OwnRep K U H a d → Rep K (Wo U a) H (.ref a) d
  | .lst _, ⟨vs, e, r⟩ => .lst (.inl e) (fun z => z.2 rfl) (r.wo a)
theorem Gd.wo (g : Gd K F σ env U H) (n : ¬ Own σ env a) : Gd K F σ env (Wo U a) H := by
  refine ⟨g.len, fun i d e => ?_, fun i l d e => ?_, g.inj, fun b u => g.live b u.1, g.frs, g.tab⟩
  · obtain ⟨v, e1, r⟩ := g.sh i d e
    exact ⟨v, e1, r.wo a⟩
  · obtain ⟨b, e1, u, o, f⟩ := g.ow i l d e
    exact ⟨b, e1, ⟨u, fun z => n (z ▸ ⟨i, l, d, e, e1⟩)⟩, o.wo a, f⟩
/-- a new owned value is shared after all -/
theorem Post.drop (g : Gd K F σ env U H) (p : Post K F σ env U H σ env' U' H') (n : ¬ Own σ env' a) (hn : H a = none) : Post K F σ env U H σ env' (Wo U' a) H' := by
  refine ⟨⟨p.tr.keep, p.tr.tab, p.tr.live, fun b u => p.tr.sub b u.1, fun b u o => ⟨p.tr.res b u o, fun z => g.live b u (z ▸ hn)⟩⟩, p.good.wo n, p.own⟩
theorem VRep.drop (g : Gd K F σ env U H) (p : Post K F σ env U H σ env' U' H') {v : V} {fr : Bool} (r : VRep K σ env' U' H' H v d fr) : ∃ U2, Post K F σ env U H σ env' U2 H' ∧ Rep K U2 H' v d := by
  cases fr with
  | false => exact ⟨U', p, r⟩
  | true =>
    obtain ⟨a, rfl, u, o, n, hn⟩ := r
    exact ⟨_, p.drop g n hn, o.share⟩
/-- a slot's list is shared from now on -/
theorem own_set {i : Nat} {s : Sl} (hs : ∀ l d, s ≠ .ow l d) {b : Addr} (h : Own σ (env.set i s) b) : Own σ env b := by
  obtain ⟨j, l, d, e, e1⟩ := h
  by_cases hj : i = j
  · subst hj
    by_cases hl : i < env.length
    · rw [List.getElem?_set_self hl] at e
      cases e
      exact absurd rfl (hs l d)
    · rw [List.getElem?_eq_none (by simpa using hl)] at e
      cases e
  · rw [List.getElem?_set_ne hj] at e
    exact ⟨j, l, d, e, e1⟩
theorem get_set_ow {i j : Nat} {s : Sl} {x : Sl} (h : (env.set i s)[j]? = some x) : (i = j ∧ x = s) ∨ (i ≠ j ∧ env[j]? = some x) := by
  by_cases hj : i = j
  · subst hj
    by_cases hl : i < env.length
    · rw [List.getElem?_set_self hl] at h
      cases h
      exact .inl ⟨rfl, rfl⟩
    · rw [List.getElem?_eq_none (by simpa using hl)] at h
      cases h
  · rw [List.getElem?_set_ne hj] at h
    exact .inr ⟨hj, h⟩
theorem Post.share {i : Nat} {l : Bool} (g : Gd K F σ env U H) (e : env[i]? = some (.ow l d)) : ∃ a, σ[i]? = some (some (.ref a)) ∧ Post K F σ env U H σ (env.set i (.sh d)) (Wo U a) H ∧ Rep K (Wo U a) H (.ref a) d := by
  obtain ⟨a, e1, u, o, f⟩ := g.ow i l d e
  have ha : Own σ env a := ⟨i, l, d, e, e1⟩
  refine ⟨a, e1, ⟨⟨fun _ _ h _ _ => h, id, fun _ h => h, fun b z => .inl z.1, fun b z n => ⟨z, fun y => n (y ▸ ha)⟩⟩, ⟨by simpa using g.len, fun j d' h => ?_, fun j l' d' h => ?_, fun j k l1 l2 d1 d2 b h1 h2 s1 s2 => ?_, fun b z => g.live b z.1, g.frs, g.tab⟩, fun b h => .inl (own_set (by simp) h)⟩, o.share⟩
  · rcases get_set_ow h with ⟨rfl, q⟩ | ⟨_, q⟩
    · cases q
      exact ⟨_, e1, o.share⟩
    · obtain ⟨v, e2, r⟩ := g.sh j d' q
      exact ⟨v, e2, r.wo a⟩
  · rcases get_set_ow h with ⟨_, q⟩ | ⟨nj, q⟩
    · cases q
    · obtain ⟨b, e2, u2, o2, f2⟩ := g.ow j l' d' q
      refine ⟨b, e2, ⟨u2, fun z => ?_⟩, o2.wo a, f2⟩
      subst z
      exact nj (g.inj i j l l' d d' b e q e1 e2)
  · rcases get_set_ow h1 with ⟨_, q⟩ | ⟨_, q1⟩
    · cases q
    · rcases get_set_ow h2 with ⟨_, q⟩ | ⟨_, q2⟩
      · cases q
      · exact g.inj j k _ _ _ _ b q1 q2 s1 s2
/-- an argument as it is read -/
inductive Pk (K : PySem.W.Frag) (U : Addr → Prop) (H : Hp) : V → D → Prop
  | sh {v : V} {d : D} (r : Rep K U H v d) : Pk K U H v d
  | ow {a : Addr} {d : D} (r : OwnRep K U H a d) : Pk K U H (.ref a) d
def AOk (K : PySem.W.Frag) (σ : Sg) (U : Addr → Prop) (H : Hp) (v : V) : Arg → Prop
  | .val d => Rep K U H v d
  | .slot i => σ[i]? = some (some v)
theorem AOk.mono {x : Arg} {v : V} (g : Gd K F σ env U H) (p : Post K F σ env U H σ env' U' H') (h : AOk K σ U H v x) : AOk K σ U' H' v x := by
  cases x with
  | val d => exact p.rep g h
  | slot i => exact h
theorem Gd.peek (g : Gd K F σ env U H) {x : Arg} {v : V} (h : AOk K σ U H v x) (e : x.peek env = some d) : Pk K U H v d := by
  cases x with
  | val d' => cases e; exact .sh h
  | slot i =>
    have h : σ[i]? = some (some v) := h
    simp only [Arg.peek] at e
    split at e
    · rename_i d' q
      cases e
      obtain ⟨v', e1, r⟩ := g.sh i _ q
      rw [h] at e1; cases e1
      exact .sh r
    · rename_i l d' q
      cases e
      obtain ⟨a, e1, _, o, _⟩ := g.ow i _ _ q
      rw [h] at e1; cases e1
      exact .ow o
    · cases e
theorem Pk.int {v : V} {i : Int} (h : Pk K U H v (.int i)) : v = .int i := by
  cases h with
  | sh r => cases r; rfl
  | ow r => exact r.elim
theorem Pk.bl {v : V} {i : Bool} (h : Pk K U H v (.bl i)) : v = .bl i := by
  cases h with
  | sh r => cases r; rfl
  | ow r => exact r.elim
theorem Pk.non {v : V} (h : Pk K U H v .non) : v = .non := by
  cases h with
  | sh r => cases r; rfl
  | ow r => exact r.elim
theorem Pk.str {v : V} {x : Str} (h : Pk K U H v (.str x)) : v = .str x := by
  cases h with
  | sh r => cases r; rfl
  | ow r => exact r.elim
theorem Pk.tup {v : V} {ds : List D} (h : Pk K U H v (.tup ds)) : ∃ a vs, v = .ref a ∧ SqT K H a vs ∧ RepAll K U H vs ds := by
  cases h with
  | sh r => cases r with | tup h1 h2 => exact ⟨_, _, rfl, h1, h2⟩
  | ow r => exact r.elim
theorem Pk.lst {v : V} {ds : List D} (h : Pk K U H v (.lst ds)) : ∃ a vs, v = .ref a ∧ Rd H a (.lst vs) ∧ RepAll K U H vs ds := by
  cases h with
  | sh r => cases r with | lst h1 _ h2 => exact ⟨_, _, rfl, h1, h2⟩
  | ow r => obtain ⟨vs, e, h2⟩ := r; exact ⟨_, vs, rfl, .inl e, h2⟩
theorem RepAll.length : ∀ {vs : List V} {ds : List D}, RepAll K U H vs ds → vs.length = ds.length
  | _, _, .nil => rfl
  | _, _, .cons _ t => congrArg (· + 1) (RepAll.length t)
theorem RepAll.get : ∀ {vs : List V} {ds : List D} {i : Nat} {d : D}, RepAll K U H vs ds → ds[i]? = some d → ∃ v, vs[i]? = some v ∧ Rep K U H v d
  | _, _, _, _, .nil, e => by simp at e
  | _, _, 0, _, .cons r _, e => by simp at e; subst e; exact ⟨_, rfl, r⟩
  | _, _, i + 1, d, .cons _ t, e => by
    obtain ⟨u, h1, h2⟩ := RepAll.get (i := i) (d := d) t (by simpa using e)
    exact ⟨u, by simpa using h1, h2⟩
theorem RepAll.getV : ∀ {vs : List V} {ds : List D} {i : Nat} {v : V}, RepAll K U H vs ds → vs[i]? = some v → ∃ d, ds[i]? = some d ∧ Rep K U H v d
  | _, _, _, _, .nil, e => by simp at e
  | _, _, 0, _, .cons r _, e => by simp at e; subst e; exact ⟨_, rfl, r⟩
  | _, _, i + 1, d, .cons _ t, e => by
    obtain ⟨u, h1, h2⟩ := RepAll.getV (i := i) (v := d) t (by simpa using e)
    exact ⟨u, by simpa using h1, h2⟩
theorem RepAll.append : ∀ {vs ws : List V} {ds es : List D}, RepAll K U H vs ds → RepAll K U H ws es → RepAll K U H (vs ++ ws) (ds ++ es)
  | _, _, _, _, .nil, q => q
  | _, _, _, _, .cons r t, q => .cons r (RepAll.append t q)
theorem RepAll.take : ∀ {vs : List V} {ds : List D} (n : Nat), RepAll K U H vs ds → RepAll K U H (vs.take n) (ds.take n)
  | _, _, 0, _ => .nil
  | _, _, _ + 1, .nil => .nil
  | _, _, n + 1, .cons r t => .cons r (RepAll.take n t)
theorem RepAll.drop : ∀ {vs : List V} {ds : List D} (n : Nat), RepAll K U H vs ds → RepAll K U H (vs.drop n) (ds.drop n)
  | _, _, 0, r => r
  | _, _, _ + 1, .nil => .nil
  | _, _, n + 1, .cons _ t => RepAll.drop n t
theorem RepAll.set {v : V} {d : D} (r : Rep K U H v d) : ∀ {vs : List V} {ds : List D} (i : Nat), RepAll K U H vs ds → RepAll K U H (vs.set i v) (ds.set i d)
  | _, _, _, .nil => .nil
  | _, _, 0, .cons _ t => .cons r t
  | _, _, i + 1, .cons q t => .cons q (RepAll.set r i t)
theorem RepAll.reverse : ∀ {vs : List V} {ds : List D}, RepAll K U H vs ds → RepAll K U H vs.reverse ds.reverse
  | _, _, .nil => .nil
  | _, _, .cons r t => by
    rw [List.reverse_cons, List.reverse_cons]
    exact (RepAll.reverse t).append (.cons r .nil)
/-! new objects -/
theorem Post.new {p : Addr} {o : HO} (g : Gd K F σ env U H) (hn : H p = none) (ho : NT o := by first | exact nt_tup | exact nt_lst | exact nt_frz) : Post K F σ env U H σ env U (upd H p o) ∧ ∀ b u, H b = some u → upd H p o b = some u := by
  have k : ∀ b u, H b = some u → upd H p o b = some u := fun b u e => by rw [upd_ne (ne_of_none e hn)]; exact e
  have t : Tr (Own σ env) U H U (upd H p o) := by
    refine ⟨fun b u e _ _ => k b u e, fun h => tabs_new hn h ho, fun b e => ?_, fun _ h => .inl h, fun _ h _ => h⟩
    cases q : H b with
    | none => exact absurd q e
    | some u => rw [k b u q]; simp
  refine ⟨⟨t, ⟨g.len, fun i d e => ?_, fun i l d e => ?_, g.inj, fun b u => t.live b (g.live b u), fun b e => g.frs b ?_, t.tab g.tab⟩, fun _ h => .inl h⟩, k⟩
  · obtain ⟨v, e1, r⟩ := g.sh i d e
    exact ⟨v, e1, r.mono t g.hO⟩
  · obtain ⟨a, e1, u, q, f⟩ := g.ow i l d e
    refine ⟨a, e1, u, ?_, f⟩
    cases d <;> first | exact q.elim | (obtain ⟨vs, e2, r⟩ := q; exact ⟨vs, k _ _ e2, r.mono t g.hO⟩)
  · cases q : H b with
    | none => rfl
    | some u => rw [k b u q] at e; cases e
theorem new_tup {p : Addr} {vs : List V} {ds : List D} (g : Gd K F σ env U H) (hn : H p = none) (r : RepAll K U H vs ds) :
    Post K F σ env U H σ env U (upd H p (.tup vs)) ∧ Rep K U (upd H p (.tup vs)) (.ref p) (.tup ds) := by
  obtain ⟨q, k⟩ := Post.new (o := .tup vs) g hn
  exact ⟨q, .tup (.inl (.inl upd_same)) (q.reps g r)⟩
/-- one address more -/
def Wi (U : Addr → Prop) (a : Addr) : Addr → Prop := fun b => U b ∨ b = a
mutual
theorem Rep.wi {p : Addr} (hn : H p = none) : ∀ {v : V} {d : D}, Rep K U H v d → Rep K (Wi U p) H v d
  | _, _, .non => .non
  | _, _, .bl b => .bl b
  | _, _, .int i => .int i
  | _, _, .str x h => .str x h
  | _, _, .tup hs ha => .tup hs (RepAll.wi hn ha)
  | _, _, .lst hs hu ha => .lst hs (fun z => by
      rcases z with z | z
      · exact hu z
      · subst z
        rcases hs with h | ⟨o, h⟩ <;> (rw [hn] at h; cases h)) (RepAll.wi hn ha)
theorem RepAll.wi {p : Addr} (hn : H p = none) : ∀ {vs : List V} {ds : List D}, RepAll K U H vs ds → RepAll K (Wi U p) H vs ds
  | _, _, .nil => .nil
  | _, _, .cons h hs => .cons (Rep.wi hn h) (RepAll.wi hn hs)
end
theorem new_lst {p : Addr} {vs : List V} {ds : List D} (g : Gd K F σ env U H) (hn : H p = none) (r : RepAll K U H vs ds) :
    Post K F σ env U H σ env (Wi U p) (upd H p (.lst vs)) ∧ VRep K σ env (Wi U p) (upd H p (.lst vs)) H (.ref p) (.lst ds) true := by
  have k : ∀ b u, H b = some u → upd H p (.lst vs) b = some u := fun b u e => by rw [upd_ne (ne_of_none e hn)]; exact e
  have t : Tr (Own σ env) U H (Wi U p) (upd H p (.lst vs)) := by
    refine ⟨fun b u e _ _ => k b u e, fun h => tabs_new hn h nt_lst, fun b e => ?_, fun b h => ?_, fun _ h _ => .inl h⟩
    · cases q : H b with
      | none => exact absurd q e
      | some u => rw [k b u q]; simp
    · rcases h with h | h
      · exact .inl h
      · subst h; exact .inr hn
  refine ⟨⟨t, ⟨g.len, fun i d e => ?_, fun i l d e => ?_, g.inj, fun b u => ?_, fun b e => g.frs b ?_, t.tab g.tab⟩, fun _ h => .inl h⟩, p, rfl, .inr rfl, ⟨vs, upd_same, r.mono t g.hO⟩, fun z => ?_, hn⟩
  · obtain ⟨v, e1, r⟩ := g.sh i d e
    exact ⟨v, e1, r.mono t g.hO⟩
  · obtain ⟨a, e1, u, q, f⟩ := g.ow i l d e
    refine ⟨a, e1, .inl u, ?_, f⟩
    cases d <;> first | exact q.elim | (obtain ⟨vs, e2, r⟩ := q; exact ⟨vs, k _ _ e2, r.mono t g.hO⟩)
  · rcases u with u | u
    · exact t.live b (g.live b u)
    · subst u; rw [upd_same]; simp
  · cases q : H b with
    | none => rfl
    | some u => rw [k b u q] at e; cases e
  · obtain ⟨_, xs, e⟩ := g.hO _ z
    rw [hn] at e; cases e
end
end Pi

set_option Elab.async false
set_option linter.all false
set_option maxRecDepth 100000
set_option maxHeartbeats 4000000
/-! PiC: the operations on values keep to the interpreter's. -/
namespace Pi
open PySem PySem.Spec PyProof.Rows L2
variable [HasT]

/-! ### data as the library's -/
mutual
def D.py : D → PyData
  | .non => .none
  | .bl b => .bool b
  | .int i => .int i
  | .str s => .str s
  | .tup xs => .tuple (D.pys xs)
  | .lst xs => .list (D.pys xs)
def D.pys : List D → List PyData
  | [] => []
  | x :: xs => x.py :: D.pys xs
end
mutual
theorem D.eqb_py : ∀ d e : D, d.eqb e = PyData.eqv d.py e.py
  | .non, e => by cases e <;> simp [D.eqb, D.py, PyData.eqv]
  | .bl b, e => by cases e <;> simp [D.eqb, D.py, PyData.eqv]
  | .int b, e => by cases e <;> simp [D.eqb, D.py, PyData.eqv]
  | .str b, e => by cases e <;> simp [D.eqb, D.py, PyData.eqv]
  | .tup xs, e => by cases e <;> simp [D.eqb, D.py, PyData.eqv, D.eqbs_py xs]
  | .lst xs, e => by cases e <;> simp [D.eqb, D.py, PyData.eqv, D.eqbs_py xs]
theorem D.eqbs_py : ∀ ds es : List D, D.eqbs ds es = PyData.eqvAll (D.pys ds) (D.pys es)
  | [], [] => by simp [D.eqbs, D.pys, PyData.eqvAll]
  | [], _ :: _ => by simp [D.eqbs, D.pys, PyData.eqvAll]
  | _ :: _, [] => by simp [D.eqbs, D.pys, PyData.eqvAll]
  | x :: xs, y :: ys => by simp [D.eqbs, D.pys, PyData.eqvAll, D.eqb_py x y, D.eqbs_py xs ys]
end
mutual
theorem D.depth_py : ∀ d : D, d.py.depth = d.depth
  | .non => by simp [D.py, D.depth, PyData.depth]
  | .bl b => by simp [D.py, D.depth, PyData.depth]
  | .int b => by simp [D.py, D.depth, PyData.depth]
  | .str b => by simp [D.py, D.depth, PyData.depth]
  | .tup xs => by simp [D.py, D.depth, PyData.depth, D.depths_py xs]
  | .lst xs => by simp [D.py, D.depth, PyData.depth, D.depths_py xs]
theorem D.depths_py : ∀ ds : List D, PyData.depthAll (D.pys ds) = D.depths ds
  | [] => by simp [D.pys, D.depths, PyData.depthAll]
  | x :: xs => by simp [D.pys, D.depths, PyData.depthAll, D.depth_py x, D.depths_py xs]
end
section
variable {K : PySem.W.Frag} {U : Addr → Prop} {H : Hp}
mutual
theorem Rep.dp : ∀ {v : V} {d : D}, Rep K U H v d → Dp K H v d.py ∧ d.py.canLay0 = true
  | _, _, .non => ⟨.non, rfl⟩
  | _, _, .bl b => ⟨.bl b, rfl⟩
  | _, _, .int i => ⟨.int i, rfl⟩
  | _, _, .str x h => ⟨.str x, by simpa [D.py, PyData.canLay0] using h.1⟩
  | _, _, .tup hs ha => ⟨by rw [D.py]; exact .tup hs (RepAll.dp ha).1, by rw [D.py, PyData.canLay0]; exact (RepAll.dp ha).2⟩
  | _, _, .lst hs _ ha => ⟨by rw [D.py]; exact .lst (.inl hs) (RepAll.dp ha).1, by rw [D.py, PyData.canLay0]; exact (RepAll.dp ha).2⟩
theorem RepAll.dp : ∀ {vs : List V} {ds : List D}, RepAll K U H vs ds → DpAll K H vs (D.pys ds) ∧ PyData.canLayAll0 (D.pys ds) = true
  | _, _, .nil => ⟨by rw [D.pys]; exact .nil, by rw [D.pys, PyData.canLayAll0]⟩
  | _, _, .cons h hs => ⟨by rw [D.pys]; exact .cons (Rep.dp h).1 (RepAll.dp hs).1, by rw [D.pys, PyData.canLayAll0, (Rep.dp h).2, (RepAll.dp hs).2]; rfl⟩
end
theorem Pk.dp {v : V} {d : D} (h : Pk K U H v d) : Dp K H v d.py ∧ d.py.canLay0 = true := by
  cases h with
  | sh r => exact r.dp
  | ow r =>
    cases d <;> first
      | exact r.elim
      | (obtain ⟨vs, e, q⟩ := r
         exact ⟨by rw [D.py]; exact .lst (.inl (.inl e)) q.dp.1, by rw [D.py, PyData.canLay0]; exact q.dp.2⟩)
theorem Pk.shaped {v : V} {d : D} (h : Pk K U H v d) (hd : d.depth ≤ 64) : SeqAt.shaped d.py = true := by
  unfold SeqAt.shaped
  rw [h.dp.2, D.depth_py]
  simpa using hd
end

/-! ### the fixed part of a derivation -/
structure Sx where
  K : PySem.W.Frag
  F : Addr → Prop
  W : WX
  XR : Exc → Value → Option Addr → (Addr → Prop) → Hp → Prop

/-- what stands behind an operation that gives o -/
def Kout (B : Sx) (σ : Sg) (env : Env) (U : Addr → Prop) (H : Hp) (o : Option (D × Bool)) (Q : VK) : Prop :=
  ∃ r fr, o = some (r, fr) ∧ ∀ v U' H', Post B.K B.F σ env U H σ env U' H' → VRep B.K σ env U' H' H v r fr → Q v H'
section
variable {B : Sx} {σ : Sg} {env : Env} {U : Addr → Prop} {H : Hp} {Q : VK}
theorem Kout.sc {o : Option (D × Bool)} (g : Gd B.K B.F σ env U H) (h : Kout B σ env U H o Q) {r : D} {v : V} (e : o = some (r, false)) (rep : Rep B.K U H v r) : Q v H := by
  obtain ⟨r', fr, e', q⟩ := h
  rw [e] at e'; cases e'
  exact q v U H (.refl g) rep
theorem Kout.tup {o : Option (D × Bool)} (g : Gd B.K B.F σ env U H) (h : Kout B σ env U H o Q) {ds : List D} {vs : List V} (e : o = some (.tup ds, false)) (rep : RepAll B.K U H vs ds) : ∀ p, H p = none → Q (.ref p) (upd H p (.tup vs)) := fun p hp => by
  obtain ⟨r', fr, e', q⟩ := h
  rw [e] at e'; cases e'
  obtain ⟨a, b⟩ := new_tup g hp rep
  exact q _ _ _ a b
theorem Kout.lst {o : Option (D × Bool)} (g : Gd B.K B.F σ env U H) (h : Kout B σ env U H o Q) {ds : List D} {vs : List V} (e : o = some (.lst ds, true)) (rep : RepAll B.K U H vs ds) : ∀ p, H p = none → Q (.ref p) (upd H p (.lst vs)) := fun p hp => by
  obtain ⟨r', fr, e', q⟩ := h
  rw [e] at e'; cases e'
  obtain ⟨a, b⟩ := new_lst g hp rep
  exact q _ _ _ a b
end
def r2 (B : Sx) (f : D → D → Option (D × Bool)) : R2 := fun x y H Q => ∃ σ env U d e, Gd B.K B.F σ env U H ∧ Pk B.K U H x d ∧ Pk B.K U H y e ∧ Kout B σ env U H (f d e) Q

def bopOf : Operator → Option Bop
  | .Add => some .add | .Sub => some .sub | .Mult => some .mul | .FloorDiv => some .fdiv | .Mod => some .mod | .Pow => some .pow
  | _ => none
def copOf : CmpOp → Cop
  | .Eq => .eq | .NotEq => .ne | .Lt => .lt | .LtE => .le | .Gt => .gt | .GtE => .ge | .Is => .is | .IsNot => .isnot | .In => .isin | .NotIn => .notin

theorem line100 : (100000 : Nat) ≤ sizeLine := by rw [sizeLine_eq]; decide
section
variable {X : Cx} {B : Sx}
/-- a list that is read, its object as it was made -/
theorem Inv.rdM {pins : List (Addr × Obj)} {σ : Sg} {H : Hp} {s : Shared} {l : Addr} {xs : List V} (I : Inv X pins σ H s) (hH : Rd H l (.lst xs)) :
    xs.length ≤ sizeLine ∧ ∃ (its : List Value) (n : Nat), Vals xs its ∧ xs.length = its.length ∧ s.heap.get? l = some { cls := .type "list", data := .seq its.toArray n } := by
  obtain ⟨z, its, n, r, e⟩ : xs.length ≤ sizeLine ∧ ∃ (its : List Value) (n : Nat), Vals xs its ∧ s.heap.get? l = some { cls := .type "list", data := .seq its.toArray n } := hH.ok I.hok
  exact ⟨z, its, n, r, r.length, e⟩
def rCatR : R2 := fun x y H Q => ∃ l b xs zs, x = .ref l ∧ y = .ref b ∧ Rd H l (.lst xs) ∧ Rd H b (.lst zs) ∧ xs.length + zs.length ≤ sizeLine ∧ ∀ p, H p = none → Q (.ref p) (upd H p (.lst (xs ++ zs)))
theorem op_catR : OpR X (binaryOp .Add) rCatR := by
  intro pins s σ H x y v u Q I rx ry h
  obtain ⟨l, b, xs, zs, rfl, rfl, hH, hB, hz, q⟩ := h
  cases rx
  cases ry
  obtain ⟨z, its, n, r, hl, e⟩ := Inv.rdM I hH
  obtain ⟨z2, its2, n2, r2, hl2, e2⟩ := Inv.rdM I hB
  refine PySem.P.add_list e e2 ?_ (by rw [List.size_toArray, List.size_toArray]; omega)
  have ea : its.toArray ++ its2.toArray = (its ++ its2).toArray := by simp
  rw [ea]
  exact ⟨.ref _, _, I.lnew (t' := s.toks) (r.append r2) (by rw [List.length_append]; omega), rfl, q _ I.fresh⟩

def rRepR : R2 := fun x y H Q => ∃ l k xs, x = .ref l ∧ y = .int k ∧ Rd H l (.lst xs) ∧ 0 ≤ k ∧ k ≤ 1000 ∧ xs.length ≤ 100 ∧ ∀ p, H p = none → Q (.ref p) (upd H p (.lst (List.replicate k.toNat xs).flatten))
theorem op_repR : OpR X (binaryOp .Mult) rRepR := by
  intro pins s σ H x y v u Q I rx ry h
  obtain ⟨l, k, xs, rfl, rfl, hH, h1, h2, hz, q⟩ := h
  cases rx
  obtain ⟨t, rfl⟩ := ry
  obtain ⟨z, its, n, r, hl, e⟩ := Inv.rdM I hH
  have hml : xs.length * k.toNat ≤ 100 * 1000 := Nat.mul_le_mul hz (by omega)
  have hsl := sizeLine_eq
  have hlen : its.toArray.size * k.toNat ≤ sizeLine := by rw [List.size_toArray, ← hl]; exact Nat.le_trans hml (by rw [hsl]; decide)
  have hcap : ¬ its.toArray.size * k.toNat > (2 ^ 63 - 1) / 8 := by rw [List.size_toArray, ← hl]; omega
  have hfit : ¬ (!Builtin.List.listFitsIndex k) = true := by
    rw [fitsIndex_both (k := k) (by omega) (by omega)]
    simp
  have hnew : List.foldl (fun x1 x2 => x1 ++ x2) #[] (List.replicate (if its.toArray.isEmpty = true then 0 else k.toNat) its.toArray) = (List.replicate k.toNat its).flatten.toArray := by
    have f0 : ∀ m : Nat, List.foldl (fun x1 x2 => x1 ++ x2) #[] (List.replicate m its.toArray) = (List.replicate m its).flatten.toArray := fun m => by simpa using foldl_rep its m []
    cases its with
    | nil => rw [f0]; simp
    | cons a r' => rw [if_neg (by simp), f0]
  have sl := notLongL hlen
  refine wpAny_binaryOp_repeat_ref (T := "list") (U := "int") (by decide) ⟨_, e, rfl⟩ (fun s' => typeIs_int s' k t) noFill_list_mul F.fills_int_mul
    F.slot_int_rmul repeat_list F.slot_int_index.lookup (call_meets F.slot_int_rmul (typeIs_int s k t) F.entry_int_rmul
      (F.args_int_rmul_2 _ _) (int___rmul___int_list k t l its.toArray n) ⟨e, rfl, ⟨_, e, rfl⟩,
        call_meets F.slot_list_mul ⟨_, e, rfl⟩ F.entry_list_mul (F.args_list_mul_2 _ _)
          (AutoListH.list___mul___list_int_3 l its.toArray n k t hfit hcap (by rw [sl]; simp)) ⟨e, ?_⟩⟩)
  rw [hnew]
  exact ⟨.ref _, _, I.lnew (t' := s.toks) (r.rep k.toNat) (by rw [PyProof.Rows.lm_len_rep_flat, Nat.mul_comm, hl, ← List.size_toArray]; exact hlen), rfl, q _ I.fresh⟩
theorem RepAll.rep {K : PySem.W.Frag} {U : Addr → Prop} {H : Hp} {vs : List V} {ds : List D} (h : RepAll K U H vs ds) : ∀ n : Nat, RepAll K U H (List.replicate n vs).flatten (List.replicate n ds).flatten
  | 0 => .nil
  | n + 1 => by
    rw [List.replicate_succ, List.replicate_succ, List.flatten_cons, List.flatten_cons]
    exact h.append (RepAll.rep h n)

theorem op_fdivL : OpR X (binaryOp .FloorDiv) (rI (fun _ j => j < 0 ∧ j.natAbs.log2 < 9000) fun i j => .int (i.fdiv j)) := opI fun i j _ _ _ _ _ hc q => floordiv_int (by have := hc.1; omega) q (.inl (PyProof.noPylong_of_log2 hc.2))
theorem mulOk_ok {i j : Int} (h : mulOk i j) : IntMulOk i j := by
  have b : ∀ x : Int, Builtin.Int.intBits x ≤ x.natAbs.log2 + 1 := fun x => by
    unfold Builtin.Int.intBits
    split <;> omega
  have h1 := b i
  have h2 := b j
  rcases h with h | h | h
  · exact L2.CMulW.ok h
  · exact IntMulOk.of_left (by omega)
  · exact IntMulOk.of_right (by omega)
theorem op_mulX {X : Cx} : OpR X (binaryOp .Mult) (rI mulOk fun i j => .int (i * j)) := opI fun _ _ _ _ _ _ _ hc q => mul_int q (mulOk_ok hc)
theorem sound_bop {op : Operator} {o : Bop} (ho : bopOf op = some o) (hK : X.K = B.K) : OpR X (binaryOp op) (r2 B (opD o)) := by
  intro pins s σ H x y v u Q I rx ry h
  obtain ⟨σ0, env, U, d, e, g, hd, he, k⟩ := h
  have key : ∀ {C : Int → Int → Prop} {gg : Int → Int → Int} (i j : Int), OpR X (binaryOp op) (rI C fun i j => .int (gg i j)) → d = .int i → e = .int j → C i j → opD o d e = some (.int (gg i j), false) →
      wpAny (model X.prog X.w) X.A (binaryOp op v u) (EP X pins σ Q) X.xe s := by
    intro C gg i j R e1 e2 c e3
    subst e1 e2
    exact R pins s σ H x y v u Q I rx ry ⟨i, j, hd.int, he.int, c, k.sc g e3 (.int _)⟩
  have key0 : ∀ {gg : Int → Int → Int} (i j : Int), OpR X (binaryOp op) (rI0 fun i j => .int (gg i j)) → d = .int i → e = .int j → opD o d e = some (.int (gg i j), false) →
      wpAny (model X.prog X.w) X.A (binaryOp op v u) (EP X pins σ Q) X.xe s := by
    intro gg i j R e1 e2 e3
    subst e1 e2
    exact R pins s σ H x y v u Q I rx ry ⟨i, j, hd.int, he.int, k.sc g e3 (.int _)⟩
  obtain ⟨r, fr, eo, _⟩ := id k
  cases op <;> cases ho
  · -- Add
    cases d <;> cases e <;> try (simp [opD] at eo)
    · exact key0 _ _ op_add rfl rfl (by simp [opD])
    · rename_i xs ys
      obtain ⟨hz, _, _⟩ := eo
      have e3 : opD .add (.tup xs) (.tup ys) = some (.tup (xs ++ ys), false) := by simp [opD, hz]
      obtain ⟨a, vs, rfl, h1, h2⟩ := hd.tup
      obtain ⟨b, ws, rfl, h3, h4⟩ := he.tup
      refine op_catA pins s σ H _ _ v u Q I rx ry ⟨a, b, vs, ws, rfl, rfl, hK ▸ h1, hK ▸ h3, by rw [h2.length, h4.length]; exact Nat.le_trans hz line100, fun e0 => ?_, fun _ e0 => ?_, fun _ _ => k.tup g e3 (h2.append h4)⟩
      · subst e0
        cases h2
        exact k.sc g e3 (.tup h3 h4)
      · subst e0
        cases h4
        exact k.sc g e3 (.tup h1 (by rw [List.append_nil]; exact h2))
    · rename_i xs ys
      obtain ⟨hz, _, _⟩ := eo
      have e3 : opD .add (.lst xs) (.lst ys) = some (.lst (xs ++ ys), true) := by simp [opD, hz]
      obtain ⟨a, vs, rfl, h1, h2⟩ := hd.lst
      obtain ⟨b, ws, rfl, h3, h4⟩ := he.lst
      exact op_catR pins s σ H _ _ v u Q I rx ry ⟨a, b, vs, ws, rfl, rfl, h1, h3, by rw [h2.length, h4.length]; exact Nat.le_trans hz line100, k.lst g e3 (h2.append h4)⟩
  · cases d <;> cases e <;> try (simp [opD] at eo)
    exact key0 _ _ op_sub rfl rfl (by simp [opD])
  · cases d <;> cases e <;> try (simp [opD] at eo)
    · rename_i i j
      obtain ⟨hm, _⟩ := eo
      exact key i j op_mulX rfl rfl hm (by simp [opD, hm])
    · rename_i xs j
      obtain ⟨hm, _⟩ := eo
      obtain ⟨a, vs, rfl, h1, h2⟩ := hd.lst
      have hj := he.int
      exact op_repR pins s σ H _ _ v u Q I rx ry ⟨a, j, vs, rfl, hj, h1, hm.1, hm.2.1, by rw [h2.length]; exact hm.2.2, k.lst g (by simp [opD, hm]) (h2.rep _)⟩
  · cases d <;> cases e <;> try (simp [opD] at eo)
    rename_i i j
    obtain ⟨hm, _⟩ := eo
    exact key i j op_mod rfl rfl hm (by simp [opD, hm])
  · cases d <;> cases e <;> try (simp [opD] at eo)
    rename_i i j
    obtain ⟨hm, _⟩ := eo
    refine key i j op_pow rfl rfl ⟨hm.1, ?_, ?_⟩ (by simp [opD, hm])
    · have := hm.2.1; omega
    · exact Nat.lt_of_lt_of_le hm.2.2 (by decide)
  · cases d <;> cases e <;> try (simp [opD] at eo)
    rename_i i j
    by_cases hm : divOk j
    · exact key i j op_fdivW rfl rfl hm (by simp [opD, hm])
    · by_cases hn : j < 0 ∧ j.natAbs.log2 < 9000
      · exact key i j op_fdivL rfl rfl hn (by simp [opD, hm, hn])
      · simp [opD, hm, hn] at eo

theorem is_non_bl {A : Around} {M : Model} {b : Bool} {Q : Value → Shared → Prop} {E : Value → Shared → Prop} {s : Shared} (h : Q (.bool false) s) : wpAny M A (compareOp .Is .none (.bool b)) Q E s := by
  exact wpAny_is_other rfl (fun z => nomatch z) h
theorem isnot_non_bl {A : Around} {M : Model} {b : Bool} {Q : Value → Shared → Prop} {E : Value → Shared → Prop} {s : Shared} (h : Q (.bool true) s) : wpAny M A (compareOp .IsNot .none (.bool b)) Q E s := by
  exact wpAny_isNot_other rfl (fun z => nomatch z) h

theorem Pk.nn {K : PySem.W.Frag} {U : Addr → Prop} {H : Hp} {v : V} {d : D} (h : Pk K U H v d) (n : d ≠ .non) : v ≠ .non := by
  intro e
  subst e
  cases h with
  | sh r => cases r; exact n rfl
theorem op_inT (hu : X.A.units + 65 < cLine) : OpR X (compareOp .In) (fun x y H Q => ∃ d ds, Dp X.K H x d ∧ Dp X.K H y (.tuple ds) ∧ SeqAt.shaped d = true ∧ SeqAt.shaped (.tuple ds) = true ∧ Q (.bl (ds.any fun z => PyData.eqv z d)) H) := by
  intro pins s σ H x y v u Q I rx ry h
  obtain ⟨d, ds, hd, he, sd, se, q⟩ := h
  obtain ⟨as, r1⟩ := Dp.reads I d x v hd rx
  obtain ⟨bs, r2⟩ := Dp.reads I (.tuple ds) y u he ry
  exact SeqAt.in_tuple_reads r2 r1 (SeqAt.canLay_of_shaped se) (SeqAt.canLay_of_shaped sd) (room_in_shaped sd hu) ⟨.bl _, H, I, rfl, q⟩
theorem op_notInT (hu : X.A.units + 65 < cLine) : OpR X (compareOp .NotIn) (fun x y H Q => ∃ d ds, Dp X.K H x d ∧ Dp X.K H y (.tuple ds) ∧ SeqAt.shaped d = true ∧ SeqAt.shaped (.tuple ds) = true ∧ Q (.bl (!ds.any fun z => PyData.eqv z d)) H) := by
  intro pins s σ H x y v u Q I rx ry h
  obtain ⟨d, ds, hd, he, sd, se, q⟩ := h
  obtain ⟨as, r1⟩ := Dp.reads I d x v hd rx
  obtain ⟨bs, r2⟩ := Dp.reads I (.tuple ds) y u he ry
  exact SeqAt.notIn_tuple_reads r2 r1 (SeqAt.canLay_of_shaped se) (SeqAt.canLay_of_shaped sd) (room_in_shaped sd hu) ⟨.bl _, H, I, rfl, q⟩
theorem sound_cop (op : CmpOp) (hK : X.K = B.K) (hu : X.A.units + 65 < cLine) : OpR X (compareOp op) (r2 B fun d e => (cmpD (copOf op) d e).map fun k => (.bl k, false)) := by
  intro pins s σ H x y v u Q I rx ry h
  obtain ⟨σ0, env, U, d, e, g, hd, he, k⟩ := h
  obtain ⟨r, fr, eo, _⟩ := id k
  replace eo : (cmpD (copOf op) d e).map (fun k => (D.bl k, false)) = some (r, fr) := eo
  have fin : ∀ b, cmpD (copOf op) d e = some b → Q (.bl b) H := fun b eb => k.sc g (by show Option.map _ (cmpD (copOf op) d e) = _; rw [eb]; rfl) (.bl b)
  have keyI : ∀ {gg : Int → Int → Bool} (i j : Int), OpR X (compareOp op) (rI0 fun i j => .bl (gg i j)) → d = .int i → e = .int j → cmpD (copOf op) d e = some (gg i j) →
      wpAny (model X.prog X.w) X.A (compareOp op v u) (EP X pins σ Q) X.xe s := by
    intro gg i j R e1 e2 e3
    have f := fin _ e3
    subst e1 e2
    exact R pins s σ H x y v u Q I rx ry ⟨i, j, hd.int, he.int, f⟩
  have hu' : X.A.units + 64 < cLine := by omega
  cases op
  case Eq =>
    simp only [copOf, cmpD] at eo fin
    split at eo
    · rename_i hc
      refine op_eqD hu' pins s σ H x y v u Q I rx ry ⟨d.py, e.py, hK ▸ hd.dp.1, hK ▸ he.dp.1, hd.shaped hc.1, he.shaped hc.2, ?_⟩
      rw [← D.eqb_py]
      exact fin _ (by rw [if_pos hc])
    · simp at eo
  case NotEq =>
    simp only [copOf, cmpD] at eo fin
    split at eo
    · rename_i hc
      refine op_neD hu' pins s σ H x y v u Q I rx ry ⟨d.py, e.py, hK ▸ hd.dp.1, hK ▸ he.dp.1, hd.shaped hc.1, he.shaped hc.2, ?_⟩
      rw [← D.eqb_py]
      exact fin _ (by rw [if_pos hc])
    · simp at eo
  case Lt =>
    cases d <;> cases e <;> try (simp [copOf, cmpD] at eo)
    exact keyI _ _ op_lt rfl rfl (by simp [copOf, cmpD])
  case LtE =>
    cases d <;> cases e <;> try (simp [copOf, cmpD] at eo)
    exact keyI _ _ op_le rfl rfl (by simp [copOf, cmpD])
  case Gt =>
    cases d <;> cases e <;> try (simp [copOf, cmpD] at eo)
    exact keyI _ _ op_gt rfl rfl (by simp [copOf, cmpD])
  case GtE =>
    cases d <;> cases e <;> try (simp [copOf, cmpD] at eo)
    exact keyI _ _ op_ge rfl rfl (by simp [copOf, cmpD])
  case Is =>
    cases e with
    | non =>
      have ev := he.non
      subst ev
      refine op_isN pins s σ H x .non v u Q I rx ry ⟨rfl, ?_⟩
      cases d with
      | non => rw [hd.non]; exact fin true (by simp [copOf, cmpD])
      | _ => rw [decide_eq_false (hd.nn (by simp))]; exact fin false (by simp [copOf, cmpD])
    | bl b =>
      cases d with
      | bl c =>
        refine op_isBl pins s σ H x y v u Q I rx ry ⟨c, b, hd.bl, he.bl, ?_⟩
        have := fin (c == b) (by simp [copOf, cmpD])
        rwa [show decide (c = b) = (c == b) by cases c <;> cases b <;> rfl]
      | non =>
        have e1 := hd.non
        have e2 := he.bl
        subst e1 e2
        cases rx; cases ry
        exact is_non_bl ⟨.bl false, H, I, rfl, fin false (by simp [copOf, cmpD])⟩
      | _ => simp [copOf, cmpD] at eo
    | _ => cases d <;> simp [copOf, cmpD] at eo
  case IsNot =>
    cases e with
    | non =>
      have ev := he.non
      subst ev
      refine op_notN pins s σ H x .non v u Q I rx ry ⟨rfl, ?_⟩
      cases d with
      | non => rw [hd.non]; exact fin false (by simp [copOf, cmpD])
      | _ => rw [decide_eq_false (hd.nn (by simp))]; exact fin true (by simp [copOf, cmpD])
    | bl b =>
      cases d with
      | bl c =>
        refine op_notBl pins s σ H x y v u Q I rx ry ⟨c, b, hd.bl, he.bl, ?_⟩
        have := fin (!(c == b)) (by simp [copOf, cmpD])
        rwa [show decide (c = b) = (c == b) by cases c <;> cases b <;> rfl]
      | non =>
        have e1 := hd.non
        have e2 := he.bl
        subst e1 e2
        cases rx; cases ry
        exact isnot_non_bl ⟨.bl true, H, I, rfl, fin true (by simp [copOf, cmpD])⟩
      | _ => simp [copOf, cmpD] at eo
    | _ => cases d <;> simp [copOf, cmpD] at eo
  case In =>
    cases e with
    | lst ys =>
      simp only [copOf, cmpD] at eo fin
      split at eo
      · rename_i hc
        have hl : (D.lst ys).depth ≤ 64 := by rw [D.depth]; omega
        refine op_inD hu pins s σ H x y v u Q I rx ry ⟨d.py, D.pys ys, hK ▸ hd.dp.1, ?_, hd.shaped (by omega), ?_, ?_⟩
        · have := he.dp.1; rw [D.py] at this; exact hK ▸ this
        · have := he.shaped hl; rwa [D.py] at this
        · have e2 : ((D.pys ys).any fun z => PyData.eqv z d.py) = ys.any fun y => y.eqb d := by
            clear hl fin eo hc k he
            induction ys with
            | nil => simp [D.pys]
            | cons y ys ih => simp [D.pys, ih, D.eqb_py]
          rw [e2]
          exact fin _ (by rw [if_pos hc])
      · simp at eo
    | tup ys =>
      simp only [copOf, cmpD] at eo fin
      split at eo
      · rename_i hc
        have hl : (D.tup ys).depth ≤ 64 := by rw [D.depth]; omega
        refine op_inT hu pins s σ H x y v u Q I rx ry ⟨d.py, D.pys ys, hK ▸ hd.dp.1, ?_, hd.shaped (by omega), ?_, ?_⟩
        · have := he.dp.1; rw [D.py] at this; exact hK ▸ this
        · have := he.shaped hl; rwa [D.py] at this
        · have e2 : ((D.pys ys).any fun z => PyData.eqv z d.py) = ys.any fun y => y.eqb d := by
            clear hl fin eo hc k he
            induction ys with
            | nil => simp [D.pys]
            | cons y ys ih => simp [D.pys, ih, D.eqb_py]
          rw [e2]
          exact fin _ (by rw [if_pos hc])
      · simp at eo
    | _ => simp [copOf, cmpD] at eo
  case NotIn =>
    cases e with
    | lst ys =>
      simp only [copOf, cmpD] at eo fin
      split at eo
      · rename_i hc
        have hl : (D.lst ys).depth ≤ 64 := by rw [D.depth]; omega
        refine op_notInD hu pins s σ H x y v u Q I rx ry ⟨d.py, D.pys ys, hK ▸ hd.dp.1, ?_, hd.shaped (by omega), ?_, ?_⟩
        · have := he.dp.1; rw [D.py] at this; exact hK ▸ this
        · have := he.shaped hl; rwa [D.py] at this
        · have e2 : ((D.pys ys).any fun z => PyData.eqv z d.py) = ys.any fun y => y.eqb d := by
            clear hl fin eo hc k he
            induction ys with
            | nil => simp [D.pys]
            | cons y ys ih => simp [D.pys, ih, D.eqb_py]
          rw [e2]
          exact fin _ (by rw [if_pos hc])
      · simp at eo
    | tup ys =>
      simp only [copOf, cmpD] at eo fin
      split at eo
      · rename_i hc
        have hl : (D.tup ys).depth ≤ 64 := by rw [D.depth]; omega
        refine op_notInT hu pins s σ H x y v u Q I rx ry ⟨d.py, D.pys ys, hK ▸ hd.dp.1, ?_, hd.shaped (by omega), ?_, ?_⟩
        · have := he.dp.1; rw [D.py] at this; exact hK ▸ this
        · have := he.shaped hl; rwa [D.py] at this
        · have e2 : ((D.pys ys).any fun z => PyData.eqv z d.py) = ys.any fun y => y.eqb d := by
            clear hl fin eo hc k he
            induction ys with
            | nil => simp [D.pys]
            | cons y ys ih => simp [D.pys, ih, D.eqb_py]
          rw [e2]
          exact fin _ (by rw [if_pos hc])
      · simp at eo
    | _ => simp [copOf, cmpD] at eo
end
end Pi

set_option Elab.async false
set_option linter.all false
set_option maxRecDepth 100000
set_option maxHeartbeats 4000000
/-! PiD: expressions keep to the interpreter. -/
namespace Pi
open PySem PySem.Spec PyProof.Rows L2
variable [HasT]

/-- what is wanted behind r -/
def Wp (B : Sx) (σ : Sg) (env : Env) (U : Addr → Prop) (H : Hp) {α : Type} (r : Res α) (P : α → Env → (Addr → Prop) → Hp → Prop) : Prop := match r with
  | .ok a env' => ∀ U' H', Post B.K B.F σ env U H σ env' U' H' → P a env' U' H'
  | .ex x env' => ∀ U' H' c dx, Post B.K B.F σ env U H σ env' U' H' → B.XR x c dx U' H' → B.W c dx σ H'
  | .bad => False
section
variable {B : Sx} {σ : Sg} {env : Env} {U : Addr → Prop} {H : Hp} {α β : Type}
theorem Wp.bind {r : Res α} {f : α → Env → Res β} {P : β → Env → (Addr → Prop) → Hp → Prop} (g : Gd B.K B.F σ env U H) (h : Wp B σ env U H (r.bind f) P) :
    Wp B σ env U H r fun a env1 U1 H1 => Wp B σ env1 U1 H1 (f a env1) P := by
  cases r with
  | bad => exact h
  | ex x env1 => exact h
  | ok a env1 =>
    intro U1 H1 p1
    have h : Wp B σ env U H (f a env1) P := h
    generalize f a env1 = q at h
    cases q with
    | bad => exact h
    | ok b env2 => exact fun U2 H2 p2 => h U2 H2 (p1.trans g p2)
    | ex x env2 => exact fun U2 H2 c dx p2 => h U2 H2 c dx (p1.trans g p2)
theorem Wp.imp {r : Res α} {P P' : α → Env → (Addr → Prop) → Hp → Prop} (h : Wp B σ env U H r P) (k : ∀ a env' U' H', r = .ok a env' → Post B.K B.F σ env U H σ env' U' H' → P a env' U' H' → P' a env' U' H') : Wp B σ env U H r P' := by
  cases r with
  | bad => exact h
  | ex x env1 => exact h
  | ok a env1 => exact fun U1 H1 p1 => k a env1 U1 H1 rfl p1 (h U1 H1 p1)
theorem Wp.ok {a : α} {P : α → Env → (Addr → Prop) → Hp → Prop} (g : Gd B.K B.F σ env U H) (h : Wp B σ env U H (.ok a env) P) : P a env U H := h U H (.refl g)
theorem Wp.pure {o : Option α} {P : α → Env → (Addr → Prop) → Hp → Prop} (h : Wp B σ env U H (pureR o env) P) : ∃ a, o = some a ∧ Wp B σ env U H (.ok a env) P := by
  cases o with
  | none => exact h.elim
  | some a => exact ⟨a, rfl, h⟩
end
theorem Post.trans' {K F σ env U H σ1 env1 U1 H1 σ2 env2 U2 H2} (g : Gd K F σ env U H) (p : Post K F σ env U H σ1 env1 U1 H1) (q : Post K F σ1 env1 U1 H1 σ2 env2 U2 H2) : Post K F σ env U H σ2 env2 U2 H2 := Post.trans g p q

/-- the readings -/
def rdE (B : Sx) (L : Lib) (e : E) : TE := fun σ H Q => ∃ env U, Gd B.K B.F σ env U H ∧ Wp B σ env U H (eval L e env) fun x env' U' H' => ∀ v, VRep B.K σ env' U' H' H v x.1 x.2 → Q v H'
def rdA (B : Sx) (L : Lib) (e : E) : TE := fun σ H Q => ∃ env U, Gd B.K B.F σ env U H ∧ Wp B σ env U H (argOf e (eval L e env) env) fun x env' U' H' => ∀ v, AOk B.K σ U' H' v x → Q v H'
inductive AOks (K : PySem.W.Frag) (σ : Sg) (U : Addr → Prop) (H : Hp) : List V → List Arg → Prop
  | nil : AOks K σ U H [] []
  | cons {v : V} {vs : List V} {x : Arg} {xs : List Arg} : AOk K σ U H v x → AOks K σ U H vs xs → AOks K σ U H (v :: vs) (x :: xs)
def rdAs (B : Sx) (L : Lib) (es : List E) : TA := fun σ H Q => ∃ env U, Gd B.K B.F σ env U H ∧ Wp B σ env U H (args L es env) fun xs env' U' H' => ∀ vs, AOks B.K σ U' H' vs xs → Q vs H'
def rdEs (B : Sx) (L : Lib) (es : List E) : TA := fun σ H Q => ∃ env U, Gd B.K B.F σ env U H ∧ Wp B σ env U H (evals L es env) fun ds env' U' H' => ∀ vs, RepAll B.K U' H' vs ds → Q vs H'
/-- a test: P is told of the heap alone -/
def tst (L : Lib) (e : E) (env : Env) : Res Bool := (argOf e (eval L e env) env).bind fun x env1 => pureR ((x.peek env1).map D.truth) env1
def rdT (B : Sx) (L : Lib) (e : E) : TT := fun σ H Q => ∃ env U, Gd B.K B.F σ env U H ∧ Wp B σ env U H (tst L e env) fun k _ _ H' => Q k H'

theorem _root_.L2.PE.imp {X : Cx} {e : Expr} {t t' : TE} (h : PE X e t) (k : ∀ σ H Q, t' σ H Q → t σ H Q) : PE X e t' := ⟨fun pins s σ H Q I hw => h.run pins s σ H Q I (k σ H Q hw)⟩
theorem _root_.L2.PA.imp {X : Cx} {e : List Expr} {t t' : TA} (h : PA X e t) (k : ∀ σ H Q, t' σ H Q → t σ H Q) : PA X e t' := ⟨fun pos pins s σ H Q I hw => h.run pos pins s σ H Q I (k σ H Q hw)⟩
theorem _root_.L2.PT.imp {X : Cx} {e : Expr} {t t' : TT} (h : PT X e t) (k : ∀ σ H Q, t' σ H Q → t σ H Q) : PT X e t' := ⟨fun pins s σ H Q I hw => h.run pins s σ H Q I (k σ H Q hw)⟩
theorem _root_.L2.PW.imp {X : Cx} {e : Expr} {t t' : TT} (h : PW X e t) (k : ∀ σ H Q, t' σ H Q → t σ H Q) : PW X e t' := ⟨fun wh pins s σ H Q I hw => h.run wh pins s σ H Q I (k σ H Q hw)⟩

section
variable {B : Sx} {L : Lib} {σ : Sg} {env : Env} {U : Addr → Prop} {H : Hp} {K : PySem.W.Frag}
theorem AOks.mono {F : Addr → Prop} {env' : Env} {U' : Addr → Prop} {H' : Hp} (g : Gd K F σ env U H) (p : Post K F σ env U H σ env' U' H') : ∀ {vs : List V} {xs : List Arg}, AOks K σ U H vs xs → AOks K σ U' H' vs xs
  | _, _, .nil => .nil
  | _, _, .cons h t => .cons (h.mono g p) (AOks.mono g p t)
theorem Gd.peeks {F : Addr → Prop} (g : Gd K F σ env U H) : ∀ {vs : List V} {xs : List Arg} {ds : List D}, AOks K σ U H vs xs → peeks env xs = some ds → Paired (Pk K U H) vs ds
  | _, _, _, .nil, e => by simp only [Pi.peeks] at e; cases e; exact .nil
  | _, _, _, .cons (x := x) (xs := xs) h t, e => by
    simp only [Pi.peeks] at e
    cases e1 : x.peek env with
    | none => rw [e1] at e; cases e
    | some d =>
      rw [e1] at e
      cases e2 : Pi.peeks env xs with
      | none => rw [e2] at e; cases e
      | some ds =>
        rw [e2] at e
        cases e
        exact .cons (g.peek h e1) (Gd.peeks g t e2)
theorem VRep.rep0 {env' : Env} {U' : Addr → Prop} {H' : Hp} {v : V} {d : D} {fr : Bool} (r : VRep K σ env' U' H' H v d fr) : Pk K U' H' v d := by
  cases fr with
  | false => exact .sh r
  | true =>
    obtain ⟨a, rfl, _, o, _⟩ := r
    exact .ow o
theorem Pk.truth {v : V} {d : D} (h : Pk K U H v d) : TruV K v H d.truth := by
  cases d with
  | non => rw [h.non]; rfl
  | bl b => rw [h.bl]; rfl
  | int i => rw [h.int]; rfl
  | str x =>
    cases h with
    | sh r => cases r with | str _ q => exact ⟨Nat.le_trans q.2 line100, rfl⟩
    | ow r => exact r.elim
  | tup ds =>
    obtain ⟨a, vs, rfl, h1, h2⟩ := h.tup
    refine .inr (.inl ⟨vs, h1, ?_⟩)
    cases h2 <;> rfl
  | lst ds =>
    obtain ⟨a, vs, rfl, h1, h2⟩ := h.lst
    refine .inl ⟨vs, .inl h1, ?_⟩
    cases h2 <;> rfl
/-- a value that is an argument: its reading -/
theorem rdE_of_A {e : E} (he : ∀ i, e ≠ .var i) {Q : VK} (h : rdA B L e σ H Q) : rdE B L e σ H Q := by
  obtain ⟨env, U, g, h⟩ := h
  refine ⟨env, U, g, ?_⟩
  have e1 : argOf e (eval L e env) env = (eval L e env).bind fun d env' => .ok (.val d.1) env' := by
    cases e <;> first | rfl | exact absurd rfl (he _)
  rw [e1] at h
  cases hr : eval L e env with
  | bad => rw [hr] at h; exact h.elim
  | ex x env1 => rw [hr] at h; exact h
  | ok x env1 =>
    rw [hr] at h
    intro U1 H1 p1 v r
    obtain ⟨U2, p2, r2⟩ := VRep.drop g p1 r
    exact h U2 H1 p2 v r2
/-- a value used as data that is kept: shared -/
theorem Wp.val {r : Res (D × Bool)} {P : D → Env → (Addr → Prop) → Hp → Prop} (g : Gd B.K B.F σ env U H) (h : Wp B σ env U H (r.bind fun d env' => .ok d.1 env') P) :
    Wp B σ env U H r fun x env' _ H' => ∀ v U', VRep B.K σ env' U' H' H v x.1 x.2 → Post B.K B.F σ env U H σ env' U' H' → ∃ U2, Post B.K B.F σ env U H σ env' U2 H' ∧ Rep B.K U2 H' v x.1 ∧ P x.1 env' U2 H' := by
  cases r with
  | bad => exact h
  | ex x env1 => exact h
  | ok x env1 =>
    intro U1 H1 _ v U' r p1
    obtain ⟨U2, p2, r2⟩ := VRep.drop g p1 r
    exact ⟨U2, p2, r2, h U2 H1 p2⟩
end
end Pi

set_option Elab.async false
set_option linter.all false
set_option maxRecDepth 100000
set_option maxHeartbeats 4000000
/-! PiE: expressions, form by form. -/
namespace Pi
open PySem PySem.Spec PyProof.Rows L2
variable [HasT]

theorem Res.bind_assoc {α β γ : Type} (r : Res α) (f : α → Env → Res β) (k : β → Env → Res γ) : (r.bind f).bind k = r.bind fun a e => (f a e).bind k := by
  cases r <;> rfl
section
variable {B : Sx} {L : Lib} {σ : Sg} {env : Env} {U : Addr → Prop} {H : Hp}
theorem VRep.start {K : PySem.W.Frag} {H1 H2 : Hp} {env' : Env} {U' : Addr → Prop} {H' : Hp} {v : V} {d : D} {fr : Bool} (hn : ∀ b, H2 b = none → H1 b = none) (r : VRep K σ env' U' H' H2 v d fr) : VRep K σ env' U' H' H1 v d fr := by
  cases fr with
  | false => exact r
  | true =>
    obtain ⟨a, e, u, o, n, h⟩ := r
    exact ⟨a, e, u, o, n, hn a h⟩
theorem Post.back {K F σ1 env1 U1 H1} (p : Post K F σ env U H σ1 env1 U1 H1) : ∀ b, H1 b = none → H b = none := fun b e => Classical.byContradiction fun z => p.tr.live b z e

theorem tst_nv {e : E} (he : ∀ i, e ≠ .var i) : tst L e env = (eval L e env).bind fun x e => .ok x.1.truth e := by
  have e1 : ∀ r, argOf e r env = r.bind fun d env' => .ok (.val d.1) env' := fun r => by
    cases e <;> first | rfl | exact absurd rfl (he _)
  unfold tst
  rw [e1, Res.bind_assoc]
  rfl
theorem tst_of_eval {a : E} {β : Type} {f : D × Bool → Env → Res β} {P : β → Env → (Addr → Prop) → Hp → Prop} (g : Gd B.K B.F σ env U H) (h : Wp B σ env U H ((eval L a env).bind f) P) :
    Wp B σ env U H (tst L a env) fun k env' U' H' => ∃ d fr env1 U1, D.truth d = k ∧ Post B.K B.F σ env' U' H' σ env1 U1 H' ∧ Wp B σ env1 U1 H' (f (d, fr) env1) P := by
  by_cases hv : ∃ i, a = .var i
  · obtain ⟨i, rfl⟩ := hv
    have hb := Wp.bind g h
    unfold tst
    simp only [eval, argOf] at hb ⊢
    cases hi : env[i]? with
    | none => rw [hi] at hb; exact hb.elim
    | some s =>
      cases s with
      | no => rw [hi] at hb; exact hb.elim
      | sh d =>
        rw [hi] at hb
        simp only [Res.bind_ok, Arg.peek, hi, Option.map_some, pureR_some]
        intro U' H' p
        exact ⟨d, false, env, U', rfl, .refl p.good, hb U' H' p⟩
      | ow l d =>
        rw [hi] at hb
        simp only [Res.bind_ok, Arg.peek, hi, Option.map_some, pureR_some]
        intro U' H' p
        obtain ⟨a, _, q, _⟩ := Post.share p.good hi
        exact ⟨d, false, env.set i (.sh d), _, rfl, q, hb _ H' (p.trans g q)⟩
  · have hv' : ∀ i, a ≠ .var i := fun i e => hv ⟨i, e⟩
    rw [tst_nv hv']
    have hb := Wp.bind g h
    cases hr : eval L a env with
    | bad => rw [hr] at hb; exact hb
    | ex x e1 => rw [hr] at hb; exact hb
    | ok x e1 =>
      rw [hr] at hb
      intro U' H' p
      exact ⟨x.1, x.2, e1, U', rfl, .refl p.good, hb U' H' p⟩
theorem tst_eval {a : E} {Q : Bool → Hp → Prop} (g : Gd B.K B.F σ env U H) (h : Wp B σ env U H ((eval L a env).bind fun y e => .ok y.1.truth e) fun k _ _ H' => Q k H') : Wp B σ env U H (tst L a env) fun k _ _ H' => Q k H' := by
  refine (tst_of_eval g h).imp fun k env' U' H' _ p q => ?_
  obtain ⟨d, fr, env1, U1, e, p1, w⟩ := q
  rw [← e]
  exact Wp.ok p1.good w
end

section
variable {X : Cx} {B : Sx} {L : Lib} {a b c : Expr} {a' b' c' : E} {pos : Pos}
theorem snd_var {i : Nat} {x : Str} {p : Pos} (hN : X.N[i]? = some x) (hv : Vis X.env.scope x) (hd : (x == ("__debug__" : Str)) = false) (hcd : (x == ("__classdict__" : Str)) = false) : PE X (.Name x p) (rdE B L (.var i)) := by
  refine (pe_var (pos := p) hN hv hd hcd).imp fun σ H Q ⟨env, U, g, h⟩ => ?_
  simp only [eval] at h
  cases hi : env[i]? with
  | none => rw [hi] at h; exact h.elim
  | some s =>
    rw [hi] at h
    cases s with
    | no => exact h.elim
    | sh d =>
      obtain ⟨v, e1, r⟩ := g.sh i d hi
      exact ⟨v, e1, h U H (.refl g) v r⟩
    | ow l d =>
      obtain ⟨a, e1, p1, r⟩ := Post.share g hi
      exact ⟨.ref a, e1, h _ H p1 _ r⟩
theorem snd_varA {i : Nat} {x : Str} {p : Pos} (hN : X.N[i]? = some x) (hv : Vis X.env.scope x) (hd : (x == ("__debug__" : Str)) = false) (hcd : (x == ("__classdict__" : Str)) = false) : PE X (.Name x p) (rdA B L (.var i)) := by
  refine (pe_var (pos := p) hN hv hd hcd).imp fun σ H Q ⟨env, U, g, h⟩ => ?_
  simp only [argOf] at h
  cases hi : env[i]? with
  | none => rw [hi] at h; exact h.elim
  | some s =>
    rw [hi] at h
    cases s with
    | no => exact h.elim
    | sh d =>
      obtain ⟨v, e1, r⟩ := g.sh i d hi
      exact ⟨v, e1, h U H (.refl g) v e1⟩
    | ow l d =>
      obtain ⟨a, e1, _⟩ := g.ow i l d hi
      exact ⟨.ref a, e1, h U H (.refl g) _ e1⟩
theorem snd_arg (he : ∀ i, a' ≠ .var i) (h : PE X a (rdE B L a')) : PE X a (rdA B L a') := h.imp fun _ _ _ q => rdE_of_A he q
theorem snd_con {d : D} {v : V} (h : PE X a (tC v)) (r : ∀ U H, Rep B.K U H v d) : PE X a (rdE B L (.con d)) := by
  refine h.imp fun σ H Q ⟨env, U, g, h⟩ => ?_
  exact h U H (.refl g) v (r U H)
/-- two arguments, an operation -/
theorem rd_2 {f : D → D → Option (D × Bool)} {e' : E} (he : ∀ env, eval L e' env = (argOf a' (eval L a' env) env).bind fun x env1 => (argOf b' (eval L b' env1) env1).bind fun y env2 => pureR ((x.peek env2).bind fun d => (y.peek env2).bind fun e => f d e) env2)
    {σ : Sg} {H : Hp} {Q : VK} (h : rdE B L e' σ H Q) : rdA B L a' σ H fun x H1 => rdA B L b' σ H1 fun y H2 => r2 B f x y H2 Q := by
  obtain ⟨env, U, g, h⟩ := h
  rw [he] at h
  refine ⟨env, U, g, (Wp.bind g h).imp fun x env1 U1 H1 _ p1 h1 v ok1 => ⟨env1, U1, p1.good, (Wp.bind p1.good h1).imp fun y env2 U2 H2 _ p2 h2 w ok2 => ?_⟩⟩
  obtain ⟨r, e, h3⟩ := h2.pure
  cases e1 : x.peek env2 with
  | none => rw [e1] at e; cases e
  | some d =>
    cases e2 : y.peek env2 with
    | none => rw [e1, e2] at e; cases e
    | some d2 =>
      rw [e1, e2] at e
      exact ⟨σ, env2, U2, d, d2, p2.good, p2.good.peek (ok1.mono p1.good p2) e1, p2.good.peek ok2 e2, r.1, r.2, e, fun v U' H' p3 vr => h3 U' H' p3 v (vr.start fun b z => p1.back b (p2.back b z))⟩
theorem snd_bin {op : Operator} {o : Bop} (ho : bopOf op = some o) (hK : X.K = B.K) (ha : PE X a (rdA B L a')) (hb : PE X b (rdA B L b')) : PE X (.BinOp a op b pos) (rdE B L (.bin o a' b')) :=
  (pe_op (sound_bop ho hK) ha hb).imp fun σ H Q h => rd_2 (fun env => by simp only [eval]) h
theorem snd_cmp {op : CmpOp} (hK : X.K = B.K) (hu : X.A.units + 65 < cLine) (ha : PE X a (rdA B L a')) (hb : PE X b (rdA B L b')) (hm : behindInMarks op b = false) : PE X (.Compare a [op] [b] pos) (rdE B L (.cmp (copOf op) a' b')) :=
  (pe_cmpR (sound_cop op hK hu) ha hb hm).imp fun σ H Q h => rd_2 (f := fun d e => (cmpD (copOf op) d e).map fun k => (.bl k, false)) (fun env => by simp only [eval]) h
/-- one argument, an operation -/
theorem rd_1 {f : D → Option (D × Bool)} {e' : E} (he : ∀ env, eval L e' env = (argOf a' (eval L a' env) env).bind fun x env1 => pureR ((x.peek env1).bind f) env1)
    {σ : Sg} {H : Hp} {Q : VK} (h : rdE B L e' σ H Q) : rdA B L a' σ H fun x H1 => ∃ env1 U1 d, Gd B.K B.F σ env1 U1 H1 ∧ Pk B.K U1 H1 x d ∧ Kout B σ env1 U1 H1 (f d) Q := by
  obtain ⟨env, U, g, h⟩ := h
  rw [he] at h
  refine ⟨env, U, g, (Wp.bind g h).imp fun x env1 U1 H1 _ p1 h1 v ok1 => ?_⟩
  obtain ⟨r, e, h3⟩ := h1.pure
  cases e1 : x.peek env1 with
  | none => rw [e1] at e; cases e
  | some d =>
    rw [e1] at e
    exact ⟨env1, U1, d, p1.good, p1.good.peek ok1 e1, r.1, r.2, e, fun v U' H' p3 vr => h3 U' H' p3 v (vr.start p1.back)⟩
theorem snd_neg (ha : PE X a (rdA B L a')) : PE X (.UnaryOp .USub a pos) (rdE B L (.neg a')) := by
  refine (pe_un un_neg ha).imp fun σ H Q h => ?_
  have q := rd_1 (f := fun d => match d with | .int i => some (.int (-i), false) | _ => none) (fun env => by
    simp only [eval]
    congr 1
    funext x env1
    cases x.peek env1 with
    | none => rfl
    | some d => cases d <;> rfl) h
  obtain ⟨env, U, g, w⟩ := q
  refine ⟨env, U, g, w.imp fun x env1 U1 H1 _ p1 h1 v ok1 => ?_⟩
  obtain ⟨env2, U2, d, g2, pk, k⟩ := h1 v ok1
  obtain ⟨r, fr, e, _⟩ := id k
  cases d <;> try (cases e)
  exact ⟨_, pk.int, k.sc g2 rfl (.int _)⟩
theorem snd_not (hK : X.K = B.K) (ha : PE X a (rdA B L a')) : PE X (.UnaryOp .Not a pos) (rdE B L (.not a')) := by
  refine (pe_notT ha).imp fun σ H Q h => ?_
  have q := rd_1 (f := fun d => some (.bl (!d.truth), false)) (fun env => by
    simp only [eval]
    congr 1
    funext x env1
    cases x.peek env1 <;> rfl) h
  obtain ⟨env, U, g, w⟩ := q
  refine ⟨env, U, g, w.imp fun x env1 U1 H1 _ p1 h1 v ok1 => ?_⟩
  obtain ⟨env2, U2, d, g2, pk, k⟩ := h1 v ok1
  exact ⟨d.truth, hK ▸ pk.truth, k.sc g2 rfl (.bl _)⟩
variable {rest : List Expr}
theorem snd_and (hK : X.K = B.K) (ha : PE X a (rdE B L a')) (hb : PE X (.BoolOp .And (b :: rest) pos) (rdE B L b')) : PE X (.BoolOp .And (a :: b :: rest) pos) (rdE B L (.and a' b')) := by
  refine (pe_andT ha hb).imp fun σ H Q ⟨env, U, g, h⟩ => ?_
  simp only [eval] at h
  refine ⟨env, U, g, ?_⟩
  cases hr : eval L a' env with
  | bad => rw [hr] at h; exact h
  | ex x e1 => rw [hr] at h; exact h
  | ok x e1 =>
    rw [hr] at h
    intro U1 H1 p1 v vr
    refine ⟨x.1.truth, hK ▸ vr.rep0.truth, ?_⟩
    simp only [Res.bind_ok] at h
    cases ht : x.1.truth with
    | true =>
      rw [if_pos ht] at h
      rw [if_pos rfl]
      have hb : Wp B σ env U H ((Res.ok x e1).bind fun _ e => eval L b' e) _ := h
      exact ⟨e1, U1, p1.good, ((Wp.bind g hb) U1 H1 p1).imp fun y e2 U2 H2 _ p2 q w wr => q w (wr.start p1.back)⟩
    | false =>
      rw [if_neg (by rw [ht]; simp)] at h
      rw [if_neg (by simp)]
      obtain ⟨U2, p2, r2⟩ := VRep.drop g p1 vr
      exact h U2 H1 p2 v r2
theorem snd_or (hK : X.K = B.K) (ha : PE X a (rdE B L a')) (hb : PE X (.BoolOp .Or (b :: rest) pos) (rdE B L b')) : PE X (.BoolOp .Or (a :: b :: rest) pos) (rdE B L (.or a' b')) := by
  refine (pe_orT ha hb).imp fun σ H Q ⟨env, U, g, h⟩ => ?_
  simp only [eval] at h
  refine ⟨env, U, g, ?_⟩
  cases hr : eval L a' env with
  | bad => rw [hr] at h; exact h
  | ex x e1 => rw [hr] at h; exact h
  | ok x e1 =>
    rw [hr] at h
    intro U1 H1 p1 v vr
    refine ⟨x.1.truth, hK ▸ vr.rep0.truth, ?_⟩
    simp only [Res.bind_ok] at h
    cases ht : x.1.truth with
    | true =>
      rw [if_pos ht] at h
      rw [if_pos rfl]
      obtain ⟨U2, p2, r2⟩ := VRep.drop g p1 vr
      exact h U2 H1 p2 v r2
    | false =>
      rw [if_neg (by rw [ht]; simp)] at h
      rw [if_neg (by simp)]
      have hb : Wp B σ env U H ((Res.ok x e1).bind fun _ e => eval L b' e) _ := h
      exact ⟨e1, U1, p1.good, ((Wp.bind g hb) U1 H1 p1).imp fun y e2 U2 H2 _ p2 q w wr => q w (wr.start p1.back)⟩
/-! tests -/
theorem snd_T (hK : X.K = B.K) (ha : PE X a (rdA B L a')) (he : ∀ whole, isTrue a X.env whole = (do let v ← whole; standAt a.pos; holding [v] (truthy v))) : PT X a (rdT B L a') := by
  refine (pt_truth ha he).imp fun σ H Q ⟨env, U, g, h⟩ => ?_
  refine ⟨env, U, g, (Wp.bind g h).imp fun x env1 U1 H1 _ p1 h1 v ok1 => ?_⟩
  obtain ⟨k, e, h3⟩ := h1.pure
  cases e1 : x.peek env1 with
  | none => rw [e1] at e; cases e
  | some d =>
    rw [e1] at e
    cases e
    exact ⟨d.truth, hK ▸ (p1.good.peek ok1 e1).truth, Wp.ok p1.good h3⟩
theorem snd_Tcmp {op : CmpOp} (hK : X.K = B.K) (hu : X.A.units + 65 < cLine) (ha : PE X a (rdA B L a')) (hb : PE X b (rdA B L b')) (hm : behindInMarks op b = false) : PT X (.Compare a [op] [b] pos) (rdT B L (.cmp (copOf op) a' b')) := by
  refine (pt_cmpR (sound_cop op hK hu) ha hb hm).imp fun σ H Q ⟨env, U, g, h⟩ => ?_
  rw [tst_nv (by simp)] at h
  refine rd_2 (e' := .cmp (copOf op) a' b') (f := fun d e => (cmpD (copOf op) d e).map fun k => (.bl k, false)) (fun env => by simp only [eval]) ⟨env, U, g, ?_⟩
  -- the value is a truth
  have hb2 : ∀ r e1, eval L (.cmp (copOf op) a' b') env = .ok r e1 → ∃ k, r = (.bl k, false) := by
    intro r e1 he
    simp only [eval] at he
    cases ha : argOf a' (eval L a' env) env with
    | bad => rw [ha] at he; cases he
    | ex x e => rw [ha] at he; cases he
    | ok x e2 =>
      rw [ha, Res.bind_ok] at he
      cases hb : argOf b' (eval L b' e2) e2 with
      | bad => rw [hb] at he; cases he
      | ex x e => rw [hb] at he; cases he
      | ok y e3 =>
        rw [hb, Res.bind_ok] at he
        cases h1 : x.peek e3 with
        | none => rw [h1] at he; cases he
        | some d =>
          cases h2 : y.peek e3 with
          | none => rw [h1, h2] at he; cases he
          | some d2 =>
            rw [h1, h2] at he
            simp only [Option.bind_some] at he
            cases h3 : cmpD (copOf op) d d2 with
            | none => rw [h3] at he; cases he
            | some k =>
              rw [h3] at he
              cases he
              exact ⟨k, rfl⟩
  refine (Wp.bind g h).imp fun x env1 U1 H1 hx p1 h1 v vr => ?_
  obtain ⟨k, rfl⟩ := hb2 _ _ hx
  have e1 : v = .bl k := (VRep.rep0 vr).bl
  exact ⟨k, e1, Wp.ok p1.good h1⟩
theorem snd_Tnot (ha : PT X a (rdT B L a')) : PT X (.UnaryOp .Not a pos) (rdT B L (.not a')) := by
  refine (pt_not ha).imp fun σ H Q ⟨env, U, g, h⟩ => ?_
  rw [tst_nv (by simp)] at h
  refine ⟨env, U, g, ?_⟩
  have e : (eval L (.not a') env).bind (fun x e => Res.ok x.1.truth e) = (tst L a' env).bind fun k e => .ok (!k) e := by
    simp only [eval, tst, Res.bind_assoc]
    congr 1
    funext x e1
    cases x.peek e1 with
    | none => rfl
    | some d => rfl
  rw [e] at h
  exact (Wp.bind g h).imp fun k env1 U1 H1 _ p1 h1 => Wp.ok p1.good h1
theorem snd_Wand1 (ha : PT X a (rdT B L a')) : PW X (.BoolOp .And [a] pos) (rdT B L a') := pw_and1 ha
theorem snd_Wor1 (ha : PT X a (rdT B L a')) : PW X (.BoolOp .Or [a] pos) (rdT B L a') := pw_or1 ha
theorem snd_Wand (ha : PT X a (rdT B L a')) (hb : PW X (.BoolOp .And (b :: rest) pos) (rdT B L b')) : PW X (.BoolOp .And (a :: b :: rest) pos) (rdT B L (.and a' b')) := by
  refine (pw_and ha hb).imp fun σ H Q ⟨env, U, g, h⟩ => ?_
  rw [tst_nv (by simp)] at h
  simp only [eval, Res.bind_assoc] at h
  refine ⟨env, U, g, (tst_of_eval g h).imp fun k env' U' H' _ p q => ?_⟩
  obtain ⟨d, fr, env1, U1, e, p1, w⟩ := q
  subst e
  cases ht : d.truth with
  | true =>
    rw [if_pos rfl]
    simp only [ht, if_true] at w
    exact ⟨env1, U1, p1.good, tst_eval p1.good w⟩
  | false =>
    rw [if_neg (by simp)]
    simp only [ht, Bool.false_eq_true, if_false, Res.bind_ok] at w
    exact Wp.ok p1.good w
theorem snd_Wor (ha : PT X a (rdT B L a')) (hb : PW X (.BoolOp .Or (b :: rest) pos) (rdT B L b')) : PW X (.BoolOp .Or (a :: b :: rest) pos) (rdT B L (.or a' b')) := by
  refine (pw_or ha hb).imp fun σ H Q ⟨env, U, g, h⟩ => ?_
  rw [tst_nv (by simp)] at h
  simp only [eval, Res.bind_assoc] at h
  refine ⟨env, U, g, (tst_of_eval g h).imp fun k env' U' H' _ p q => ?_⟩
  obtain ⟨d, fr, env1, U1, e, p1, w⟩ := q
  subst e
  cases ht : d.truth with
  | true =>
    rw [if_pos rfl]
    simp only [ht, if_true, Res.bind_ok] at w
    exact Wp.ok p1.good w
  | false =>
    rw [if_neg (by simp)]
    simp only [ht, Bool.false_eq_true, if_false] at w
    exact ⟨env1, U1, p1.good, tst_eval p1.good w⟩
theorem snd_ite (hc : PT X c (rdT B L c')) (ha : PE X a (rdE B L a')) (hb : PE X b (rdE B L b')) : PE X (.IfExp c a b pos) (rdE B L (.ite c' a' b')) := by
  refine (pe_ifExp hc ha hb).imp fun σ H Q ⟨env, U, g, h⟩ => ?_
  have e : eval L (.ite c' a' b') env = (tst L c' env).bind fun k e => if k then eval L a' e else eval L b' e := by
    simp only [eval, tst, Res.bind_assoc]
    congr 1
    funext x e1
    cases x.peek e1 with
    | none => rfl
    | some d => rfl
  rw [e] at h
  refine ⟨env, U, g, (Wp.bind g h).imp fun k env1 U1 H1 _ p1 h1 => ?_⟩
  cases k with
  | true => exact ⟨env1, U1, p1.good, Wp.imp h1 fun y e2 U2 H2 _ p2 q w wr => q w (wr.start p1.back)⟩
  | false => exact ⟨env1, U1, p1.good, Wp.imp h1 fun y e2 U2 H2 _ p2 q w wr => q w (wr.start p1.back)⟩
theorem snd_Tite (hc : PT X c (rdT B L c')) (ha : PE X a (rdA B L a')) (hb : PE X b (rdA B L b')) : True := trivial
/-! argument lists -/
variable {es : List Expr} {es' : List E}
theorem snd_nilA : PA X [] (rdAs B L []) := (pa_nil).imp fun σ H Q ⟨env, U, g, h⟩ => h U H (.refl g) [] .nil
theorem snd_consA (ha : PE X a (rdA B L a')) (hr : PA X es (rdAs B L es')) (hs : starEach (a :: es) X.env = (false, PySem.eval a X.env) :: starEach es X.env) : PA X (a :: es) (rdAs B L (a' :: es')) := by
  refine (pa_cons ha hr hs).imp fun σ H Q ⟨env, U, g, h⟩ => ?_
  simp only [args] at h
  refine ⟨env, U, g, (Wp.bind g h).imp fun x env1 U1 H1 _ p1 h1 v ok1 => ⟨env1, U1, p1.good, (Wp.bind p1.good h1).imp fun xs env2 U2 H2 _ p2 h2 vs oks => ?_⟩⟩
  exact Wp.ok p2.good h2 _ (.cons (ok1.mono p1.good p2) oks)
theorem snd_nilE : PA X [] (rdEs B L []) := (pa_nil).imp fun σ H Q ⟨env, U, g, h⟩ => h U H (.refl g) [] .nil
theorem snd_consE (ha : PE X a (rdE B L a')) (hr : PA X es (rdEs B L es')) (hs : starEach (a :: es) X.env = (false, PySem.eval a X.env) :: starEach es X.env) : PA X (a :: es) (rdEs B L (a' :: es')) := by
  refine (pa_cons ha hr hs).imp fun σ H Q ⟨env, U, g, h⟩ => ?_
  simp only [evals] at h
  refine ⟨env, U, g, ?_⟩
  cases hr : eval L a' env with
  | bad => rw [hr] at h; exact h
  | ex x e1 => rw [hr] at h; exact h
  | ok x e1 =>
    rw [hr] at h
    intro U1 H1 p1 v vr
    obtain ⟨U2, p2, r2⟩ := VRep.drop g p1 vr
    have h2 := (Wp.bind (r := .ok x e1) g h) U2 H1 p2
    refine ⟨e1, U2, p2.good, (Wp.bind p2.good h2).imp fun ds e3 U3 H3 _ p3 h3 vs reps => ?_⟩
    exact Wp.ok p3.good h3 _ (.cons (p3.rep p2.good r2) reps)
theorem snd_tup {k : Nat} (h : PA X es (rdEs B L es')) (hz : es'.length ≤ 1000) : PE X (.Tuple es k pos) (rdE B L (.tup es')) := by
  refine (pe_tup h).imp fun σ H Q ⟨env, U, g, h⟩ => ?_
  simp only [eval] at h
  refine ⟨env, U, g, (Wp.bind g h).imp fun ds env1 U1 H1 hr p1 h1 vs reps => ⟨?_, fun p hp => ?_⟩⟩
  · rw [reps.length]
    have : ∀ (es : List E) (env : Env) (ds : List D) (e1 : Env), evals L es env = .ok ds e1 → ds.length = es.length := by
      intro es
      induction es with
      | nil => intro env ds e1 h; simp only [evals] at h; cases h; rfl
      | cons a r ih =>
        intro env ds e1 h
        simp only [evals] at h
        cases ha : eval L a env with
        | bad => rw [ha] at h; cases h
        | ex x e => rw [ha] at h; cases h
        | ok x e =>
          rw [ha, Res.bind_ok] at h
          cases hb : evals L r e with
          | bad => rw [hb] at h; cases h
          | ex x e => rw [hb] at h; cases h
          | ok y e2 =>
            rw [hb, Res.bind_ok] at h
            cases h
            rw [List.length_cons, List.length_cons, ih _ _ _ hb]
    rw [this _ _ _ _ hr]
    exact Nat.le_trans hz (Nat.le_trans (by decide) line100)
  · obtain ⟨q, r⟩ := new_tup p1.good hp reps
    exact (h1 _ _ q) _ r
theorem evals_length : ∀ (es : List E) (env : Env) (ds : List D) (e1 : Env), evals L es env = .ok ds e1 → ds.length = es.length := by
  intro es
  induction es with
  | nil => intro env ds e1 h; simp only [evals] at h; cases h; rfl
  | cons a r ih =>
    intro env ds e1 h
    simp only [evals] at h
    cases ha : eval L a env with
    | bad => rw [ha] at h; cases h
    | ex x e => rw [ha] at h; cases h
    | ok x e =>
      rw [ha, Res.bind_ok] at h
      cases hb : evals L r e with
      | bad => rw [hb] at h; cases h
      | ex x e => rw [hb] at h; cases h
      | ok y e2 =>
        rw [hb, Res.bind_ok] at h
        cases h
        rw [List.length_cons, List.length_cons, ih _ _ _ hb]
theorem snd_lst (h : PA X es (rdEs B L es')) (hz : es'.length ≤ 1000) : PE X (.List es pos) (rdE B L (.lst es')) := by
  refine (pe_lst h).imp fun σ H Q ⟨env, U, g, h⟩ => ?_
  simp only [eval] at h
  refine ⟨env, U, g, (Wp.bind g h).imp fun ds env1 U1 H1 hr p1 h1 vs reps => ⟨?_, fun p hp => ?_⟩⟩
  · rw [reps.length, evals_length _ _ _ _ hr]
    exact Nat.le_trans hz (Nat.le_trans (by decide) line100)
  · obtain ⟨q, r⟩ := new_lst p1.good hp reps
    exact (h1 _ _ q) _ (r.start p1.back)
end
theorem rep_bind {B : Sx} {L : Lib} {σ : Sg} {env : Env} {U : Addr → Prop} {H : Hp} {a' : E} {β : Type} {f : D × Bool → Env → Res β} {P : β → Env → (Addr → Prop) → Hp → Prop} (g : Gd B.K B.F σ env U H) (h : Wp B σ env U H ((eval L a' env).bind f) P) :
    Wp B σ env U H (eval L a' env) fun x env1 U1 H1 => ∀ v, VRep B.K σ env1 U1 H1 H v x.1 x.2 → ∃ U2, Post B.K B.F σ env U H σ env1 U2 H1 ∧ Rep B.K U2 H1 v x.1 ∧ Wp B σ env1 U2 H1 (f x env1) P := by
  cases hr : eval L a' env with
  | bad => rw [hr] at h; exact h
  | ex x e1 => rw [hr] at h; exact h
  | ok x e1 =>
    rw [hr] at h
    intro U1 H1 p1 v vr
    obtain ⟨U2, p2, r2⟩ := VRep.drop g p1 vr
    exact ⟨U2, p2, r2, (Wp.bind (r := .ok x e1) g h) U2 H1 p2⟩
section
variable {X : Cx} {B : Sx} {L : Lib} {a b c : Expr} {a' b' c' : E} {pos : Pos}
theorem rd_chn {o o' : Cop} {σ : Sg} {H : Hp} {Q : VK} (h : rdE B L (.chn o o' a' b' c') σ H Q) :
    tChain (r2 B fun d e => (cmpD o d e).map fun k => (.bl k, false)) (r2 B fun d e => (cmpD o' d e).map fun k => (.bl k, false)) (rdE B L a') (rdE B L b') (rdE B L c') σ H Q := by
  obtain ⟨env, U, g, h⟩ := h
  simp only [eval] at h
  refine ⟨env, U, g, (rep_bind g h).imp fun x env1 U1 H1 _ p1 h1 v vr => ?_⟩
  obtain ⟨U1', p1', r1, h1⟩ := h1 v vr
  refine ⟨env1, U1', p1'.good, (rep_bind p1'.good h1).imp fun y env2 U2 H2 _ p2 h2 w wr => ?_⟩
  obtain ⟨U2', p2', s1, h2⟩ := h2 w wr
  have g2 := p2'.good
  refine ⟨σ, env2, U2', x.1, y.1, g2, .sh (p2'.rep p1'.good r1), .sh s1, ?_⟩
  cases hc : cmpD o x.1 y.1 with
  | none => rw [hc] at h2; exact h2.elim
  | some k =>
    rw [hc] at h2
    refine ⟨.bl k, false, by simp [hc], fun z U3 H3 p3 zr => ⟨k, (VRep.rep0 zr).bl, ?_⟩⟩
    have bk : ∀ b, H3 b = none → H b = none := fun b e => p1'.back b (p2'.back b (p3.back b e))
    cases k with
    | false => exact h2 U3 H3 p3 (.bl false) (.bl false)
    | true =>
      refine (if_pos rfl).mpr ⟨env2, U3, p3.good, ?_⟩
      have h3 := (Wp.bind (r := (.ok () env2 : Res Unit)) (f := fun _ e => (eval L c' e).bind fun z env3 => pureR ((cmpD o' y.1 z.1).map fun k => (D.bl k, false)) env3) (P := fun x env' U' H' => ∀ (v : V), VRep B.K σ env' U' H' H v x.1 x.2 → Q v H') g2 (by simp only [Res.bind_ok]; exact h2)) U3 H3 p3
      refine (rep_bind p3.good h3).imp fun z' env4 U4 H4 _ p4 h4 t tr => ?_
      obtain ⟨U4', p4', t1, h4⟩ := h4 t tr
      refine ⟨σ, env4, U4', y.1, z'.1, p4'.good, .sh (p4'.rep p3.good (p3.rep g2 s1)), .sh t1, ?_⟩
      obtain ⟨r, e, h5⟩ := h4.pure
      exact ⟨r.1, r.2, e, fun u U' H' p5 vr => h5 U' H' p5 u (vr.start fun b z => bk b (p4'.back b z))⟩
theorem snd_chn {op op' : CmpOp} (hK : X.K = B.K) (hu : X.A.units + 65 < cLine) (ha : PE X a (rdE B L a')) (hb : PE X b (rdE B L b')) (hc : PE X c (rdE B L c')) (hm : lastMarks [op, op'] [b, c] = false) :
    PE X (.Compare a [op, op'] [b, c] pos) (rdE B L (.chn (copOf op) (copOf op') a' b' c')) :=
  (pe_chain (sound_cop op hK hu) (sound_cop op' hK hu) ha hb hc hm).imp fun σ H Q h => rd_chn h
theorem chn_bl {o o' : Cop} {env e1 : Env} {r : D × Bool} (h : eval L (.chn o o' a' b' c') env = .ok r e1) : ∃ k, r = (.bl k, false) := by
  simp only [eval] at h
  cases ha : eval L a' env with
  | bad => rw [ha] at h; cases h
  | ex x e => rw [ha] at h; cases h
  | ok x e2 =>
    rw [ha, Res.bind_ok] at h
    cases hb : eval L b' e2 with
    | bad => rw [hb] at h; cases h
    | ex x e => rw [hb] at h; cases h
    | ok y e3 =>
      rw [hb, Res.bind_ok] at h
      cases hc : cmpD o x.1 y.1 with
      | none => rw [hc] at h; cases h
      | some k =>
        rw [hc] at h
        cases k with
        | false => cases h; exact ⟨false, rfl⟩
        | true =>
          simp only at h
          cases hd : eval L c' e3 with
          | bad => rw [hd] at h; cases h
          | ex x e => rw [hd] at h; cases h
          | ok z e4 =>
            rw [hd, Res.bind_ok] at h
            cases he : cmpD o' y.1 z.1 with
            | none => rw [he] at h; cases h
            | some k => rw [he] at h; cases h; exact ⟨k, rfl⟩
theorem snd_Tchn {op op' : CmpOp} (hK : X.K = B.K) (hu : X.A.units + 65 < cLine) (ha : PE X a (rdE B L a')) (hb : PE X b (rdE B L b')) (hc : PE X c (rdE B L c')) (hm : lastMarks [op, op'] [b, c] = false) :
    PT X (.Compare a [op, op'] [b, c] pos) (rdT B L (.chn (copOf op) (copOf op') a' b' c')) := by
  refine (pt_chain (sound_cop op hK hu) (sound_cop op' hK hu) ha hb hc hm).imp fun σ H Q ⟨env, U, g, h⟩ => ?_
  rw [tst_nv (by simp)] at h
  refine rd_chn ⟨env, U, g, ?_⟩
  refine (Wp.bind g h).imp fun x env1 U1 H1 hx p1 h1 v vr => ?_
  obtain ⟨k, rfl⟩ := chn_bl hx
  have e1 : v = .bl k := (VRep.rep0 vr).bl
  exact ⟨k, e1, Wp.ok p1.good h1⟩
end
/-! ### values that may be new -/
theorem VRep.post {K : PySem.W.Frag} {F : Addr → Prop} {σ : Sg} {env1 env3 : Env} {U1 U3 : Addr → Prop} {H H1 H3 : Hp} {v : V} {d : D} {fr : Bool} (g1 : Gd K F σ env1 U1 H1) (p : Post K F σ env1 U1 H1 σ env3 U3 H3) (r : VRep K σ env1 U1 H1 H v d fr) : VRep K σ env3 U3 H3 H v d fr := by
  cases fr with
  | false => exact p.rep g1 r
  | true =>
    obtain ⟨a, rfl, u, o, n, hn⟩ := r
    exact ⟨a, rfl, p.tr.res a u n, o.mono p.tr g1.hO n, fun z => (p.own a z).elim n fun y => g1.live a u y, hn⟩
inductive VReps (K : PySem.W.Frag) (σ : Sg) (env : Env) (U : Addr → Prop) (H H0 : Hp) : List V → List (D × Bool) → Prop
  | nil : VReps K σ env U H H0 [] []
  | cons {v : V} {vs : List V} {x : D × Bool} {ds : List (D × Bool)} : VRep K σ env U H H0 v x.1 x.2 → VReps K σ env U H H0 vs ds → (x.2 = true → ∀ (j : Nat) (d : D), ds[j]? = some (d, true) → vs[j]? ≠ some v) → VReps K σ env U H H0 (v :: vs) (x :: ds)
theorem VReps.length {K : PySem.W.Frag} {σ : Sg} {env : Env} {U : Addr → Prop} {H H0 : Hp} {vs : List V} {ds : List (D × Bool)} (h : VReps K σ env U H H0 vs ds) : vs.length = ds.length := by
  induction h with
  | nil => rfl
  | cons _ _ _ ih => simp [ih]
theorem VReps.map {K : PySem.W.Frag} {σ σ' : Sg} {env env' : Env} {U U' : Addr → Prop} {H H' H0 H0' : Hp} {vs : List V} {ds : List (D × Bool)} (h : VReps K σ env U H H0 vs ds) (k : ∀ (j : Nat) v x, vs[j]? = some v → ds[j]? = some x → VRep K σ env U H H0 v x.1 x.2 → VRep K σ' env' U' H' H0' v x.1 x.2) : VReps K σ' env' U' H' H0' vs ds := by
  induction h with
  | nil => exact .nil
  | cons r t n ih => exact .cons (k 0 _ _ rfl rfl r) (ih fun j v x h1 h2 => k (j + 1) v x h1 h2) n
theorem VReps.get {K : PySem.W.Frag} {σ : Sg} {env : Env} {U : Addr → Prop} {H H0 : Hp} {vs : List V} {ds : List (D × Bool)} (h : VReps K σ env U H H0 vs ds) : ∀ (j : Nat) v x, vs[j]? = some v → ds[j]? = some x → VRep K σ env U H H0 v x.1 x.2 := by
  induction h with
  | nil => intro j v x h; simp at h
  | cons r t n ih =>
    intro j v x h1 h2
    cases j with
    | zero => simp only [List.getElem?_cons_zero, Option.some.injEq] at h1 h2; subst h1 h2; exact r
    | succ j => exact ih j v x h1 h2
def rdFs (B : Sx) (L : Lib) (es : List E) : TA := fun σ H Q => ∃ env U, Gd B.K B.F σ env U H ∧ Wp B σ env U H (evalsF L es env) fun ds env' U' H' => ∀ vs, VReps B.K σ env' U' H' H vs ds → Q vs H'
section
variable {X : Cx} {B : Sx} {L : Lib} {a : Expr} {a' : E} {es : List Expr} {es' : List E}
theorem snd_nilF : PA X [] (rdFs B L []) := (pa_nil).imp fun σ H Q ⟨env, U, g, h⟩ => h U H (.refl g) [] .nil
theorem snd_consF (ha : PE X a (rdE B L a')) (hr : PA X es (rdFs B L es')) (hs : starEach (a :: es) X.env = (false, PySem.eval a X.env) :: starEach es X.env) : PA X (a :: es) (rdFs B L (a' :: es')) := by
  refine (pa_cons ha hr hs).imp fun σ H Q ⟨env, U, g, h⟩ => ?_
  simp only [evalsF] at h
  refine ⟨env, U, g, (Wp.bind g h).imp fun x env1 U1 H1 _ p1 h1 v vr => ⟨env1, U1, p1.good, (Wp.bind p1.good h1).imp fun ds env3 U3 H3 _ p3 h3 vs reps => ?_⟩⟩
  refine Wp.ok p3.good h3 _ (.cons (vr.post p1.good p3) (reps.map fun j v x _ _ r => r.start p1.back) fun hx j d hd hv => ?_)
  rw [hx] at vr
  obtain ⟨b, rfl, u, _⟩ := vr
  obtain ⟨c, e, _, _, _, hn⟩ := reps.get j _ _ hv hd
  cases e
  exact p1.good.live b u hn
end
end Pi

set_option Elab.async false
set_option linter.all false
set_option maxRecDepth 100000
set_option maxHeartbeats 4000000
/-! PiF: items, slices, built-ins, isinstance, calls of defs. -/
namespace Pi
open PySem PySem.Spec PyProof.Rows L2
variable [HasT]

section
variable {X : Cx} {B : Sx} {L : Lib} {a b c : Expr} {a' b' c' : E} {pos : Pos}
theorem atI_rep {K : PySem.W.Frag} {U : Addr → Prop} {H : Hp} {vs : List V} {ds : List D} {i : Int} {d : D} (r : RepAll K U H vs ds) (e : atI ds i = some d) : ∃ v, atI vs i = some v ∧ Rep K U H v d := by
  unfold atI at e ⊢
  rw [r.length]
  cases h : ixN ds.length i with
  | none => rw [h] at e; cases e
  | some j =>
    rw [h] at e
    obtain ⟨v, e1, r1⟩ := r.get e
    exact ⟨v, e1, r1⟩
theorem sound_ix (hK : X.K = B.K) : IxR X (r2 B fun d e => (ixD d e).map fun r => (r, false)) := by
  intro value slice pins s σ H x y v u Q I rx ry h hs
  obtain ⟨σ0, env, U, d, e, g, hd, he, k⟩ := h
  obtain ⟨r, fr, eo, _⟩ := id k
  cases d with
  | lst ds =>
    cases e with
    | int i =>
      obtain ⟨p, vs, rfl, h1, h2⟩ := hd.lst
      cases hq : atI ds i with
      | none => simp [ixD, hq] at eo
      | some d =>
        obtain ⟨w, e1, r1⟩ := atI_rep h2 hq
        exact ix_list value slice pins s σ H _ _ v u Q I rx ry ⟨p, vs, i, w, rfl, he.int, .inl h1, e1, k.sc g (by simp [ixD, hq]) r1⟩ hs
    | _ => simp [ixD] at eo
  | tup ds =>
    cases e with
    | int i =>
      obtain ⟨p, vs, rfl, h1, h2⟩ := hd.tup
      cases hq : atI ds i with
      | none => simp [ixD, hq] at eo
      | some d =>
        obtain ⟨w, e1, r1⟩ := atI_rep h2 hq
        exact ix_tup value slice pins s σ H _ _ v u Q I rx ry ⟨p, vs, i, w, rfl, he.int, hK ▸ h1, e1, k.sc g (by simp [ixD, hq]) r1⟩ hs
    | _ => simp [ixD] at eo
  | _ => cases e <;> simp [ixD] at eo
theorem snd_ix (hK : X.K = B.K) (ha : PE X a (rdA B L a')) (hb : PE X b (rdA B L b')) (hs : PlainIx b) : PE X (.Subscript a b pos) (rdE B L (.ix a' b')) :=
  (pe_ix (sound_ix hK) ha hb hs).imp fun σ H Q h => rd_2 (f := fun d e => (ixD d e).map fun r => (r, false)) (fun env => by simp only [eval]) h

theorem cut_rep {K : PySem.W.Frag} {U : Addr → Prop} {H : Hp} {vs : List V} {ds : List D} (lo hi : Option Int) (r : RepAll K U H vs ds) : RepAll K U H (cutV vs lo hi) (cutL ds lo hi) := by
  unfold cutV cutL
  rw [r.length]
  exact (r.drop _).take _
theorem sIx_le' (n d : Nat) (hd : d ≤ n) (o : Option Int) : HT.sIx n d o ≤ n := HT.sIx_le n d hd o
def rCut (B : Sx) : V → Option Int → Option Int → Hp → VK → Prop := fun x lo hi H Q => ∃ σ env U d, Gd B.K B.F σ env U H ∧ Pk B.K U H x d ∧ Kout B σ env U H (cutD d lo hi) Q
theorem sound_cut (hK : X.K = B.K) : SlR X (rCut B) := by
  intro pins s σ H x v vl vu lo hi sl Q I rx hsl pl pu h
  obtain ⟨σ0, env, U, d, g, hd, k⟩ := h
  obtain ⟨r, fr, eo, _⟩ := id k
  cases d with
  | lst ds =>
    obtain ⟨p, vs, rfl, h1, h2⟩ := hd.lst
    exact sl_list pins s σ H _ v vl vu lo hi sl Q I rx hsl pl pu ⟨p, vs, rfl, .inl h1, k.lst g rfl (cut_rep lo hi h2)⟩
  | tup ds =>
    obtain ⟨p, vs, rfl, h1, h2⟩ := hd.tup
    refine sl_tupA pins s σ H _ v vl vu lo hi sl Q I rx hsl pl pu ⟨p, vs, rfl, hK ▸ h1, fun hw => ?_, fun _ => k.tup g rfl (cut_rep lo hi h2)⟩
    have e1 : cutL ds lo hi = ds := by
      unfold cutL
      rw [← h2.length, hw.1, hw.2, List.drop_zero, Nat.sub_zero, h2.length, List.take_length]
    exact k.sc g rfl (by rw [e1]; exact .tup h1 h2)
  | _ => simp [cutD] at eo
def partR (L : Lib) (e : E) (env : Env) : Res (Option Int) := partOf e (eval L e env) env
def rdO (B : Sx) (L : Lib) (e : E) : TO := fun σ H Q => ∃ env U, Gd B.K B.F σ env U H ∧ Wp B σ env U H (partR L e env) fun o _ _ H' => Q o H'
theorem _root_.L2.PO.imp {e : Option Expr} {t t' : TO} (h : PO X e t) (k : ∀ σ H Q, t' σ H Q → t σ H Q) : PO X e t' := ⟨fun pins s σ H Q I hw => h.run pins s σ H Q I (k σ H Q hw)⟩
theorem snd_nopart : PO X none (rdO B L (.con .non)) := po_none.imp fun σ H Q ⟨env, U, g, h⟩ => Wp.ok g h
theorem snd_part (hn : a' ≠ .con .non) (ha : PE X a (rdE B L a')) : PO X (some a) (rdO B L a') := by
  refine (po_some ha).imp fun σ H Q ⟨env, U, g, h⟩ => ?_
  have e1 : partR L a' env = (eval L a' env).bind fun y e1 => match y.1 with
    | .int i => .ok (some i) e1
    | _ => .bad := by
    unfold partR partOf
    split
    · exact absurd rfl hn
    · rfl
  rw [e1] at h
  refine ⟨env, U, g, (Wp.bind g h).imp fun x env1 U1 H1 hx p1 h1 v vr => ?_⟩
  cases hd : x.1 with
  | int i =>
    rw [hd] at h1
    have := (VRep.rep0 vr)
    rw [hd] at this
    exact ⟨i, this.int, Wp.ok p1.good h1⟩
  | _ => rw [hd] at h1; exact h1.elim
variable {lo hi : Option Expr} {p2 : Pos}
theorem snd_cut (hK : X.K = B.K) (ha : PE X a (rdA B L a')) (hb : PO X lo (rdO B L b')) (hc : PO X hi (rdO B L c')) : PE X (.Subscript a (.Slice lo hi none p2) pos) (rdE B L (.cut a' b' c')) := by
  refine (pe_slice (sound_cut hK) ha hb hc).imp fun σ H Q ⟨env, U, g, h⟩ => ?_
  simp only [eval] at h
  refine ⟨env, U, g, (Wp.bind g h).imp fun x env1 U1 H1 _ p1 h1 v ok1 => ⟨env1, U1, p1.good, (Wp.bind p1.good h1).imp fun l env2 U2 H2 _ p2 h2 => ⟨env2, U2, p2.good, (Wp.bind p2.good h2).imp fun u env3 U3 H3 _ p3 h3 => ?_⟩⟩⟩
  obtain ⟨r, e, h4⟩ := h3.pure
  cases e1 : x.peek env3 with
  | none => rw [e1] at e; cases e
  | some d =>
    rw [e1] at e
    exact ⟨σ, env3, U3, d, p3.good, p3.good.peek ((ok1.mono p1.good p2).mono p2.good p3) e1, r.1, r.2, e, fun v U' H' p4 vr => h4 U' H' p4 v (vr.start fun b z => p1.back b (p2.back b (p3.back b z)))⟩

theorem log_lt {n k : Nat} (h : n.log2 < k) : n < 2 ^ k := by
  by_cases h0 : n = 0
  · subst h0; exact Nat.two_pow_pos k
  · exact (Nat.log2_lt h0).mp h
theorem log_max {a b k : Nat} (ha : a.log2 < k) (hb : b.log2 < k) : (max a b).log2 < k := by
  rcases Nat.le_total a b with h | h
  · rw [Nat.max_eq_right h]; exact hb
  · rw [Nat.max_eq_left h]; exact ha
theorem log_lcm {a b k : Nat} (ha : a.log2 < k) (hb : b.log2 < k) : (a.lcm b).log2 < k + k + 1 := by
  have h3 : a.lcm b ≤ a * b := PySem.W.mc_lcm_le _ _
  have h4 : a * b < 2 ^ (k + k) := by
    rw [Nat.pow_add]
    exact Nat.mul_lt_mul_of_lt_of_le (log_lt ha) (Nat.le_of_lt (log_lt hb)) (Nat.two_pow_pos _)
  by_cases h0 : a.lcm b = 0
  · rw [h0]; simp
  · exact Nat.lt_succ_of_lt ((Nat.log2_lt h0).mpr (Nat.lt_of_le_of_lt h3 h4))
def rLcm : List V → Hp → VK → Prop := fun vs H Q => ∃ a b : Int, vs = [.int a, .int b] ∧ a.natAbs.log2 < 9000 ∧ b.natAbs.log2 < 9000 ∧ Q (.int ((Nat.lcm a.natAbs b.natAbs : Nat) : Int)) H
theorem cr_lcm {X : Cx} : CallR X (.builtin "math.lcm") rLcm := by
  intro pins s σ H vs us Q I r h
  obtain ⟨a, b, rfl, ha, hb, q⟩ := h
  obtain ⟨t, u, rfl⟩ := Vals.int2 r
  have h1 : (max 1 a.natAbs).log2 < 9000 := log_max (by decide) ha
  have h2 : (max a.natAbs b.natAbs).log2 < 9000 := log_max ha hb
  have e1 : (Nat.lcm 1 a.natAbs).lcm b.natAbs = a.natAbs.lcm b.natAbs := by rw [Nat.lcm_one_left]
  have hsz : ((((Nat.lcm 1 a.natAbs).lcm b.natAbs : Nat) : Int)).natAbs.log2 < bitsLine := by
    rw [e1, Int.natAbs_natCast]
    exact Nat.lt_trans (log_lcm ha hb) (by unfold bitsLine; decide)
  refine call_function_meets PySem.W.MGF.kind_lcm PySem.W.MGF.plain_lcm PySem.W.MGF.entry_lcm (PySem.W.MGF.args_lcm _ _) (PySem.W.mg_run_lcm a t b u (by omega) (by omega) hsz).meets ?_
  rw [e1]
  exact ⟨.int _, H, I.tok _, ⟨_, rfl⟩, q⟩
/-! ### built-ins -/
def rBi (B : Sx) (f : Bi) : List V → Hp → VK → Prop := fun vs H Q => ∃ σ env U ds, Gd B.K B.F σ env U H ∧ Paired (Pk B.K U H) vs ds ∧ Kout B σ env U H (biD f ds) Q
def Bi.val : Bi → Value
  | .len => .builtin "len" | .abs => .builtin "abs" | .int => .type "int" | .gcd => .builtin "math.gcd" | .lcm => .builtin "math.lcm" | .max => .builtin "max" | .min => .builtin "min"
  | .all => .builtin "all" | .any => .builtin "any" | .sum => .builtin "sum" | .list => .type "list" | .tuple => .type "tuple"
theorem pk1 {K : PySem.W.Frag} {U : Addr → Prop} {H : Hp} {vs : List V} {d : D} (h : Paired (Pk K U H) vs [d]) : ∃ v, vs = [v] ∧ Pk K U H v d := by
  cases h with | cons r t => cases t; exact ⟨_, rfl, r⟩
theorem pk2 {K : PySem.W.Frag} {U : Addr → Prop} {H : Hp} {vs : List V} {d e : D} (h : Paired (Pk K U H) vs [d, e]) : ∃ v w, vs = [v, w] ∧ Pk K U H v d ∧ Pk K U H w e := by
  cases h with | cons r t => cases t with | cons r2 t2 => cases t2; exact ⟨_, _, rfl, r, r2⟩
theorem reps_bls {K : PySem.W.Frag} {U : Addr → Prop} {H : Hp} : ∀ {vs : List V} {ds : List D} {bs : List Bool}, RepAll K U H vs ds → allBls ds = some bs → vs = bs.map V.bl
  | _, _, _, .nil, e => by simp only [allBls] at e; cases e; rfl
  | _, _, _, .cons (d := d) (ds := ds) r t, e => by
    cases d with
    | bl b =>
      simp only [allBls] at e
      cases h : allBls ds with
      | none => rw [h] at e; cases e
      | some cs =>
        rw [h] at e
        cases e
        cases r
        rw [reps_bls t h]
        rfl
    | _ => simp [allBls] at e
theorem reps_ints {K : PySem.W.Frag} {U : Addr → Prop} {H : Hp} : ∀ {vs : List V} {ds : List D} {bs : List Int}, RepAll K U H vs ds → allInts ds = some bs → vs = bs.map V.int
  | _, _, _, .nil, e => by simp only [allInts] at e; cases e; rfl
  | _, _, _, .cons (d := d) (ds := ds) r t, e => by
    cases d with
    | int b =>
      simp only [allInts] at e
      cases h : allInts ds with
      | none => rw [h] at e; cases e
      | some cs =>
        rw [h] at e
        cases e
        cases r
        rw [reps_ints t h]
        rfl
    | _ => simp [allInts] at e
theorem sound_bi (f : Bi) (hc : X.calm = true) (hK : X.K = B.K) : CallR X f.val (rBi B f) := by
  intro pins s σ H vs us Q I rv h
  obtain ⟨σ0, env, U, ds, g, hp, k⟩ := h
  obtain ⟨r, fr, eo, _⟩ := id k
  have sq : ∀ {p : Addr} {xs : List V}, SqT B.K H p xs → SqT X.K H p xs := fun z => hK ▸ z
  cases f
  case len =>
    rcases ds with _ | ⟨d, _ | ⟨e, t⟩⟩
    · simp [biD] at eo
    · obtain ⟨v, rfl, pk⟩ := pk1 hp
      cases d with
      | lst xs =>
        obtain ⟨p, ws, rfl, h1, h2⟩ := pk.lst
        exact call_len_seq pins s σ H _ us Q I rv ⟨p, ws, rfl, .inl (.inl h1), by rw [h2.length]; exact k.sc g rfl (.int _)⟩
      | tup xs =>
        obtain ⟨p, ws, rfl, h1, h2⟩ := pk.tup
        exact call_len_seq pins s σ H _ us Q I rv ⟨p, ws, rfl, .inr (sq h1), by rw [h2.length]; exact k.sc g rfl (.int _)⟩
      | _ => simp [biD] at eo
    · cases d <;> simp [biD] at eo
  case abs =>
    rcases ds with _ | ⟨d, _ | ⟨e, t⟩⟩
    · simp [biD] at eo
    · obtain ⟨v, rfl, pk⟩ := pk1 hp
      cases d with
      | int i => exact call_abs pins s σ H _ us Q I rv ⟨i, by rw [pk.int], k.sc g rfl (.int _)⟩
      | _ => simp [biD] at eo
    · cases d <;> simp [biD] at eo
  case int =>
    rcases ds with _ | ⟨d, _ | ⟨e, t⟩⟩
    · simp [biD] at eo
    · obtain ⟨v, rfl, pk⟩ := pk1 hp
      cases d with
      | int i => exact call_int1 pins s σ H _ us Q I rv (.inl ⟨i, by rw [pk.int], k.sc g rfl (.int _)⟩)
      | bl i => exact call_int1 pins s σ H _ us Q I rv (.inr ⟨i, by rw [pk.bl], k.sc g rfl (.int _)⟩)
      | _ => simp [biD] at eo
    · cases d <;> simp [biD] at eo
  case gcd =>
    rcases ds with _ | ⟨d, _ | ⟨e, _ | ⟨e2, t⟩⟩⟩
    · simp [biD] at eo
    · cases d <;> simp [biD] at eo
    · obtain ⟨v, w, rfl, pk, pk'⟩ := pk2 hp
      cases d <;> cases e <;> try (simp [biD] at eo)
      exact cr_gcd pins s σ H _ us Q I rv ⟨_, _, by rw [pk.int, pk'.int], k.sc g rfl (.int _)⟩
    · cases d <;> cases e <;> simp [biD] at eo
  case lcm =>
    rcases ds with _ | ⟨d, _ | ⟨e, _ | ⟨e2, t⟩⟩⟩
    · simp [biD] at eo
    · cases d <;> simp [biD] at eo
    · obtain ⟨v, w, rfl, pk, pk'⟩ := pk2 hp
      cases d <;> cases e <;> try (simp [biD] at eo; done)
      simp only [biD] at eo
      split at eo
      · rename_i hb
        cases eo
        exact cr_lcm pins s σ H _ us Q I rv ⟨_, _, by rw [pk.int, pk'.int], hb.1, hb.2, k.sc g (by simp only [biD]; rw [if_pos hb]) (.int _)⟩
      · cases eo
    · cases d <;> cases e <;> simp [biD] at eo
  case max =>
    rcases ds with _ | ⟨d, _ | ⟨e, _ | ⟨e2, t⟩⟩⟩
    · simp [biD] at eo
    · cases d <;> simp [biD] at eo
    · obtain ⟨v, w, rfl, pk, pk'⟩ := pk2 hp
      cases d <;> cases e <;> try (simp [biD] at eo)
      exact call_max2 hc pins s σ H _ us Q I rv ⟨_, _, by rw [pk.int, pk'.int], k.sc g rfl (.int _)⟩
    · cases d <;> cases e <;> simp [biD] at eo
  case min =>
    rcases ds with _ | ⟨d, _ | ⟨e, _ | ⟨e2, t⟩⟩⟩
    · simp [biD] at eo
    · cases d <;> simp [biD] at eo
    · obtain ⟨v, w, rfl, pk, pk'⟩ := pk2 hp
      cases d <;> cases e <;> try (simp [biD] at eo)
      exact call_min2 hc pins s σ H _ us Q I rv ⟨_, _, by rw [pk.int, pk'.int], k.sc g rfl (.int _)⟩
    · cases d <;> cases e <;> simp [biD] at eo
  case all =>
    rcases ds with _ | ⟨d, _ | ⟨e, t⟩⟩
    · simp [biD] at eo
    · obtain ⟨v, rfl, pk⟩ := pk1 hp
      cases d with
      | lst xs =>
        obtain ⟨p, ws, rfl, h1, h2⟩ := pk.lst
        cases hb : allBls xs with
        | none => simp [biD, hb] at eo
        | some bs =>
          have e1 := reps_bls h2 hb
          subst e1
          exact cr_all hc pins s σ H _ us Q I rv ⟨p, bs, rfl, .inl h1, k.sc g (by simp [biD, hb]) (.bl _)⟩
      | _ => simp [biD] at eo
    · cases d <;> simp [biD] at eo
  case any =>
    rcases ds with _ | ⟨d, _ | ⟨e, t⟩⟩
    · simp [biD] at eo
    · obtain ⟨v, rfl, pk⟩ := pk1 hp
      cases d with
      | lst xs =>
        obtain ⟨p, ws, rfl, h1, h2⟩ := pk.lst
        cases hb : allBls xs with
        | none => simp [biD, hb] at eo
        | some bs =>
          have e1 := reps_bls h2 hb
          subst e1
          exact cr_any hc pins s σ H _ us Q I rv ⟨p, bs, rfl, .inl h1, k.sc g (by simp [biD, hb]) (.bl _)⟩
      | _ => simp [biD] at eo
    · cases d <;> simp [biD] at eo
  case sum =>
    rcases ds with _ | ⟨d, _ | ⟨e, t⟩⟩
    · simp [biD] at eo
    · obtain ⟨v, rfl, pk⟩ := pk1 hp
      cases d with
      | lst xs =>
        obtain ⟨p, ws, rfl, h1, h2⟩ := pk.lst
        cases hb : allInts xs with
        | none => simp [biD, hb] at eo
        | some bs =>
          have e1 := reps_ints h2 hb
          subst e1
          exact cr_sum hc pins s σ H _ us Q I rv ⟨p, bs, rfl, .inl h1, k.sc g (by simp [biD, hb]) (.int _)⟩
      | _ => simp [biD] at eo
    · cases d <;> simp [biD] at eo
  case list =>
    rcases ds with _ | ⟨d, _ | ⟨e, t⟩⟩
    · simp [biD] at eo
    · obtain ⟨v, rfl, pk⟩ := pk1 hp
      cases d with
      | lst xs =>
        obtain ⟨p, ws, rfl, h1, h2⟩ := pk.lst
        exact call_list_of pins s σ H _ us Q I rv ⟨p, ws, rfl, .inl (.inl h1), k.lst g rfl h2⟩
      | tup xs =>
        obtain ⟨p, ws, rfl, h1, h2⟩ := pk.tup
        exact call_list_of pins s σ H _ us Q I rv ⟨p, ws, rfl, .inr (sq h1), k.lst g rfl h2⟩
      | _ => simp [biD] at eo
    · cases d <;> simp [biD] at eo
  case tuple =>
    rcases ds with _ | ⟨d, _ | ⟨e, t⟩⟩
    · simp [biD] at eo
    · obtain ⟨v, rfl, pk⟩ := pk1 hp
      cases d with
      | lst xs =>
        obtain ⟨p, ws, rfl, h1, h2⟩ := pk.lst
        exact call_tuple_of pins s σ H _ us Q I rv ⟨p, ws, rfl, .inl ⟨.inl h1, k.tup g rfl h2⟩⟩
      | tup xs =>
        obtain ⟨p, ws, rfl, h1, h2⟩ := pk.tup
        exact call_tuple_of pins s σ H _ us Q I rv ⟨p, ws, rfl, .inr ⟨sq h1, k.sc g rfl (.tup h1 h2)⟩⟩
      | _ => simp [biD] at eo
    · cases d <;> simp [biD] at eo
variable {es : List Expr} {es' : List E}
theorem rd_bi {f : Bi} {σ : Sg} {H : Hp} {Q : VK} (h : rdE B L (.bi f es') σ H Q) : tCB (rBi B f) (rdAs B L es') σ H Q := by
  obtain ⟨env, U, g, h⟩ := h
  simp only [eval] at h
  refine ⟨env, U, g, (Wp.bind g h).imp fun xs env1 U1 H1 _ p1 h1 vs oks => ?_⟩
  obtain ⟨r, e, h2⟩ := h1.pure
  cases e1 : peeks env1 xs with
  | none => rw [e1] at e; cases e
  | some ds =>
    rw [e1] at e
    exact ⟨σ, env1, U1, ds, p1.good, p1.good.peeks oks e1, r.1, r.2, e, fun v U' H' p2 vr => h2 U' H' p2 v (vr.start p1.back)⟩
end
end Pi

set_option Elab.async false
set_option linter.all false
set_option maxRecDepth 100000
set_option maxHeartbeats 4000000
/-! PiFa: [::-1] of lists and tuples, l.index(x), d[t] of a constant dict with keys of whole numbers. -/
namespace Pi
open PySem PySem.Spec PyProof.Rows L2
variable [HasT]

section
variable {prog : Program} {w : World} {A : Around} {E : Value → Shared → Prop} {s : Shared}
theorem adjust_rev (n : Nat) : Builtin.Slice.sliceAdjust none none (-1) (n : Int) = ((n : Int) - 1, -1) := by
  unfold Builtin.Slice.sliceAdjust
  simp
theorem places_rev (n : Nat) : Builtin.Slice.slicePlaces ((n : Int) - 1) (-1) (-1) = n := by
  unfold Builtin.Slice.slicePlaces
  have h1 : ¬ ((-1 : Int) > 0) := by omega
  rw [if_neg h1]
  by_cases h : n = 0
  · subst h; rfl
  · rw [if_pos (by omega)]
    have : ((n : Int) - 1 - -1 - 1) / -(-1) + 1 = n := by
      rw [show (-(-1) : Int) = 1 by decide, Int.ediv_one]; omega
    rw [this, Int.toNat_natCast]
theorem sliceApplied_rev {sl : Addr} {vs : Value} {n : Nat} {Q : Int × Int × Nat → Shared → Prop} (hs : s.heap.IsSliceOf sl .none .none vs) (ps : IsPart vs (some (-1)))
    (h : Q ((n : Int) - 1, -1, n) s) : wpAny (model prog w) A (Builtin.Slice.sliceApplied (.ref sl) (pure (n : Int))) Q E s := by
  obtain ⟨os, hos, hcs, hds⟩ := id hs
  unfold Builtin.Slice.sliceApplied Builtin.Slice.sliceFields
  refine wpAny_bind (wpAny_bind (wpAny_field hos hds (x := .none) rfl (wpAny_bind (wpAny_field hos hds (x := .none) rfl (wpAny_bind (wpAny_field hos hds (x := vs) rfl (wpAny_pure ?_)))))))
  refine wpAny_bind (HT.slicePart_ ps ?_)
  show wpAny _ _ (if ((-1 : Int) == 0) = true then _ else _) _ _ s
  rw [if_neg (by decide)]
  refine wpAny_bind (slicePart_none (wpAny_bind (slicePart_none (wpAny_bind (wpAny_pure ?_)))))
  show wpAny _ _ (match Builtin.Slice.sliceAdjust none none (-1) (n : Int) with | (lo, hi) => pure (lo, (-1 : Int), Builtin.Slice.slicePlaces lo hi (-1))) _ _ s
  rw [adjust_rev]
  show wpAny _ _ (pure ((n : Int) - 1, (-1 : Int), Builtin.Slice.slicePlaces ((n : Int) - 1) (-1) (-1))) _ _ s
  rw [places_rev]
  exact wpAny_pure h
theorem pick_rev (xs : Array Value) : ((List.range xs.size).filterMap fun (m : Nat) => xs[((xs.size : Int) - 1 + (m : Int) * -1).toNat]?).toArray = xs.toList.reverse.toArray := by
  have key : ∀ l : List Nat, (∀ m ∈ l, m < xs.size) → (l.filterMap fun (m : Nat) => xs[((xs.size : Int) - 1 + (m : Int) * -1).toNat]?) = (l.map fun k => xs.size - 1 - k).filterMap (xs[·]?) := by
    intro l
    induction l with
    | nil => intro _; rfl
    | cons m l ih =>
      intro h
      have hm := h m List.mem_cons_self
      have e : ((xs.size : Int) - 1 + (m : Int) * -1).toNat = xs.size - 1 - m := by omega
      rw [List.filterMap_cons, List.map_cons, List.filterMap_cons, e, ih fun k hk => h k (List.mem_cons_of_mem _ hk)]
  rw [key _ fun m hm => List.mem_range.mp hm, PySem.W.krv_range, List.filterMap_reverse, PySem.W.krv_all]
theorem getItem_tuple_rev {t sl : Addr} {items : Array Value} {vs : Value} {Q : Value → Shared → Prop} (ht : IsTup s.heap t items) (hs : s.heap.IsSliceOf sl .none .none vs) (ps : IsPart vs (some (-1)))
    (h : Q (.ref s.heap.objs.size) { s with heap := s.heap.push { cls := .type "tuple", data := .seq items.toList.reverse.toArray } })
    (hsz : items.size ≤ sizeLine) : wpAny (model prog w) A (getItem (.ref t) (.ref sl)) Q E s := by
  have htake : sizeOk (.seq items.toList.reverse.toArray) := by
    show items.toList.reverse.toArray.size ≤ sizeLine
    rw [List.size_toArray, List.length_reverse, Array.length_toList]
    exact hsz
  obtain ⟨os, hos, hcs, hds⟩ := id hs
  have hTs : s.TypeIs (.ref sl) "slice" := ⟨os, hos, hcs⟩
  unfold getItem
  try with_reducible refine wpAny_holding ?_
  first | refine wpAny_bind (wpAny_pure ?_) | skip
  refine wpAny_bind (wpAny_sequenceKey ht.typeIs (by decide) ?_)
  refine wpAny_bind (wpAny_callSpecial?_slot (name := Str.ofString "__getitem__") ht.typeIs PyProof.Rows.slot_tuple_getitem
    (wpAny_call_entry PyProof.Rows.slot_tuple_getitem ht.typeIs entry_tuple_getitem ?_ (args_tuple_getitem _ _)))
  show wpAny _ _ (Builtin.Tuple.tupleItemsOf (.ref t) >>= _) _ _ s
  refine wpAny_bind (tupleItemsOf_ ht ?_)
  refine wpAny_bind (wpAny_typeOf hTs ?_)
  rw [if_pos (by decide)]
  refine wpAny_bind (sliceApplied_rev hs ps ?_)
  have hno : ¬ ((((items.size : Int) - 1) == 0 && (-1 : Int) == 1 && items.size == items.size) = true) := by simp
  show wpAny _ _ (if (((items.size : Int) - 1) == 0 && (-1 : Int) == 1 && items.size == items.size) = true then _ else _) _ _ s
  rw [if_neg hno, pick_rev]
  first
    | exact wpAny_bind (m := Builtin.Tuple.tupleExact _) (wpAny_newObj_type (wpAny_pure ⟨_, rfl, wpAny_pure h⟩) htake)
    | exact wpAny_bind (m := Builtin.Tuple.tupleExact _) (wpAny_newObj_type (wpAny_bind (wpAny_pure (wpAny_pure ⟨_, rfl, wpAny_pure h⟩))) htake)
    | exact wpAny_bind (wpAny_bind (m := Builtin.Tuple.tupleExact _) (wpAny_newObj_type (wpAny_pure (wpAny_pure ⟨_, rfl, wpAny_pure h⟩)) htake))
    | exact wpAny_bind (wpAny_bind (m := Builtin.Tuple.tupleExact _) (wpAny_newObj_type (wpAny_pure ⟨_, rfl, wpAny_pure h⟩) htake))
end
section
variable {X : Cx} {B : Sx} {L : Lib} {a b : Expr} {a' b' : E} {pos : Pos}
def tRevA (K : PySem.W.Frag) (te : TE) : TE := fun σ H Q => te σ H fun x H1 => ∃ a xs, x = .ref a ∧ ((SqL K H1 a xs ∧ ∀ p, H1 p = none → Q (.ref p) (upd H1 p (.lst xs.reverse))) ∨ (SqT K H1 a xs ∧ ∀ p, H1 p = none → Q (.ref p) (upd H1 p (.tup xs.reverse))))
theorem pe_revA {e : Expr} {te : TE} {k : Nat} {p1 p2 p3 pos : Pos} (he : PE X e te) : PE X (.Subscript e (.Slice none none (some (.UnaryOp .USub (.Constant (.int 1) k p1) p2)) p3) pos) (tRevA X.K te) := by
  refine ⟨fun pins s σ H Q I h => ?_⟩
  refine Subscript_ (thn (he.run pins s σ H _ I h) fun v s1 ⟨x, H1, I1, r1, q1⟩ => ?_)
  obtain ⟨a, xs, ex, q⟩ := q1
  subst ex
  cases r1
  have hst : PO X (some (.UnaryOp .USub (.Constant (.int 1) k p1) p2)) (tPart (tUn (rU fun i => .int (-i)) (tC (.int 1)))) := po_some (pe_un un_neg pe_int)
  refine wpAny_Slice (thn (po_none.run pins s1 σ H1 (fun o H2 => o = none ∧ H2 = H1) I1 ⟨rfl, rfl⟩) fun vl s2 ⟨l, H2, I2, pl, el, e2⟩ => ?_)
  subst el e2
  refine thn (po_none.run pins s2 σ H2 (fun o H3 => o = none ∧ H3 = H2) I2 ⟨rfl, rfl⟩) fun vu s3 ⟨u, H3, I3, pu, eu, e3⟩ => ?_
  subst eu e3
  refine thn (hst.run pins s3 σ H3 (fun o H4 => o = some (-1) ∧ H4 = H3) I3 ⟨1, rfl, -1, rfl, rfl, rfl⟩) fun vs s4 ⟨o, H4, I4, ps, eo, e4⟩ => ?_
  subst eo e4
  have I5 : Inv X pins σ H4 { s4 with heap := s4.heap.push { cls := .type "slice", data := .fields #[vl, vu, vs] } } := I4.kept (t' := s4.toks) fun b ob q => Heap.get?_push_of_some _ q
  show wpAny (model X.prog X.w) X.A (subscriptTail e (.Slice none none (some (.UnaryOp .USub (.Constant (.int 1) k p1) p2)) p3) (.ref a) (.ref s4.heap.objs.size)) (EP X pins σ Q) X.xe { s4 with heap := s4.heap.push { cls := .type "slice", data := .fields #[vl, vu, vs] } }
  rcases q with ⟨hx, q⟩ | ⟨hx, q⟩
  · obtain ⟨its, r, ht, hz⟩ := I5.list hx
    have hlen := r.length
    refine tail_any (ops := [.ref a, .ref s4.heap.objs.size]) ht.isList.typeIs (PySem.slot_list_getitem.lookup) ?_ (by with_unfolding_all rfl)
    refine wpAny_getItem_list_slice ht.isList (Heap.IsSliceOf.new _ vl vu vs) pl pu ps (by decide) ?_ (by rw [List.size_toArray]; omega)
    rw [PySem.W.krv_pick]
    refine ⟨.ref _, _, I5.laid (t' := s4.toks) (o := .lst xs.reverse) (fun b ob q => Heap.get?_push_of_some _ q) (Nat.le_refl _) ?_, rfl, q _ (I5.hok.fresh (Nat.le_refl _))⟩
    exact ⟨by rw [List.length_reverse]; exact hz, _, 0, r.reverse, Heap.get?_push_size _ rfl⟩
  · obtain ⟨its, r, ht, hz⟩ := I5.tuple hx
    have hlen := r.length
    cases pl
    cases pu
    refine tail_any (ops := [.ref a, .ref s4.heap.objs.size]) ht.typeIs (PyProof.Rows.slot_tuple_getitem.lookup) ?_ (by with_unfolding_all rfl)
    refine getItem_tuple_rev ht (Heap.IsSliceOf.new _ .none .none vs) ps ?_ (by rw [List.size_toArray]; omega)
    refine ⟨.ref _, _, I5.laid (t' := s4.toks) (o := .tup xs.reverse) (fun b ob q => Heap.get?_push_of_some _ q) (Nat.le_refl _) ?_, rfl, q _ (I5.hok.fresh (Nat.le_refl _))⟩
    exact ⟨by rw [List.length_reverse]; exact hz, _, r.reverse, IsTup.new _ _⟩
theorem snd_rev {k : Nat} {p1 p2 p3 : Pos} (hK : X.K = B.K) (ha : PE X a (rdA B L a')) : PE X (.Subscript a (.Slice none none (some (.UnaryOp .USub (.Constant (.int 1) k p1) p2)) p3) pos) (rdE B L (.rev a')) := by
  refine (pe_revA ha).imp fun σ H Q h => ?_
  have h := rd_1 (a' := a') (e' := .rev a') (f := revD) (fun env => by simp only [eval]) h
  obtain ⟨env, U, g, w⟩ := h
  refine ⟨env, U, g, w.imp fun x env1 U1 H1 _ p1 h1 v ok => ?_⟩
  obtain ⟨env2, U2, d, g2, pk, ko⟩ := h1 v ok
  obtain ⟨r, fr, eo, _⟩ := id ko
  cases d with
  | lst ds =>
    obtain ⟨p, vs, rfl, h1, h2⟩ := pk.lst
    exact ⟨p, vs, rfl, .inl ⟨.inl h1, ko.lst g2 rfl h2.reverse⟩⟩
  | tup ds =>
    obtain ⟨p, vs, rfl, h1, h2⟩ := pk.tup
    exact ⟨p, vs, rfl, .inr ⟨hK ▸ h1, ko.tup g2 rfl h2.reverse⟩⟩
  | _ => simp [revD] at eo
theorem pys_len : ∀ xs : List D, (D.pys xs).length = xs.length
  | [] => by simp [D.pys]
  | x :: xs => by simp [D.pys, pys_len xs]
theorem pys_get : ∀ (xs : List D) (m : Nat) (hm : m < xs.length), (D.pys xs)[m]? = some (xs[m].py)
  | [], m, hm => by simp at hm
  | x :: xs, 0, hm => by simp [D.pys]
  | x :: xs, m + 1, hm => by
    simp only [D.pys, List.getElem?_cons_succ, List.getElem_cons_succ]
    exact pys_get xs m (by simpa using hm)
/-- x.index(y) -/
theorem snd_idx {x : Str} {p ap cp : Pos} (hK : X.K = B.K) (hu : X.A.units + 65 < cLine) (ha : PE X (.Name x p) (rdE B L a')) (hb : PE X b (rdE B L b')) (hst : starEach [b] X.env = (false, PySem.eval b X.env) :: starEach [] X.env) (hline : (ap.endLine == cp.line) = true) :
    PE X (.Call (.Attribute (.Name x p) "index" ap) [b] [] cp) (rdE B L (.idx a' b')) := by
  refine (pe_bm PySem.F.plainAttrs_list PySem.F.slot_list_index PySem.F.type_list_index (mt_indexD hu) ha (pa_cons hb pa_nil hst) rfl (by rw [hst]; rfl) hline hst rfl).imp fun σ H Q ⟨env, U, g, h⟩ => ?_
  simp only [eval] at h
  refine ⟨env, U, g, (rep_bind g h).imp fun x env1 U1 H1 hr1 p1 h1 v vr => ?_⟩
  obtain ⟨U2, p2, r2, h2⟩ := h1 v vr
  obtain ⟨x, fr⟩ := x
  cases x <;> try (exact h2.elim)
  rename_i xs
  obtain ⟨a, vs, rfl, e1, e2⟩ := (Pk.sh r2).lst
  refine ⟨.inl ⟨rfl, vs, .inl e1⟩, env1, U2, p2.good, (rep_bind p2.good h2).imp fun y env3 U3 H3 hr3 p3 h3 w wr => ?_⟩
  obtain ⟨U4, p4, r4, h4⟩ := h3 w wr
  obtain ⟨r, eo, h5⟩ := h4.pure
  unfold idxD at eo
  split at eo
  · rename_i hd
    cases hf : xs.findIdx? (fun x => x.eqb y.1) with
    | none => rw [hf] at eo; cases eo
    | some j =>
      rw [hf] at eo
      cases eo
      have rl := p4.rep p2.good r2
      have d1 := (Pk.sh rl).dp.1
      have d2 := (Pk.sh r4).dp.1
      have s1 := (Pk.sh rl).shaped (by rw [D.depth]; omega)
      have s2 := (Pk.sh r4).shaped (by omega)
      rw [D.py] at d1 s1
      rw [List.findIdx?_eq_some_iff_getElem] at hf
      obtain ⟨hj, h6, h7⟩ := hf
      have hg := pys_get xs
      refine ⟨a, w, y.1.py, D.pys xs, j, xs[j].py, rfl, rfl, hK ▸ d1, hK ▸ d2, s1, s2, hg j hj, ?_, fun m z hm hz => ?_, ?_⟩
      · rw [← D.eqb_py]; exact h6
      · have hm2 : m < xs.length := by omega
        rw [hg m hm2] at hz
        cases hz
        rw [← D.eqb_py]
        have := h7 m hm
        simpa using this
      · exact h5 _ _ (.refl p4.good) _ (.int _)
  · cases eo
end
/-! ### constant dicts -/
def keyHash (ks : List Int) : Int := reduceHash (Builtin.Tuple.tupleHashOf (ks.map hashInt))
def intsB : List Int → List Value → Bool
  | [], [] => true
  | i :: is, .int j _ :: vs => decide (i = j) && intsB is vs
  | _, _ => false
def tupB (K : PySem.W.Frag) (ks : List Int) (b : Addr) : Bool := match K.lookup b with
  | some o => (match o.cls, o.data with
    | .type c, .seq its _ => decide (c = "tuple") && intsB ks its.toList
    | _, _ => false)
  | none => false
def dicEs (K : PySem.W.Frag) : List (List Int × Int) → List DictEntry → Bool
  | [], [] => true
  | (ks, v) :: r, e :: es => (match e.key, e.val with
    | .ref b, .int w _ => tupB K ks b && decide (w = v) && decide (e.hash = keyHash ks) && dicEs K r es
    | _, _ => false)
  | _, _ => false
def dicB (K : PySem.W.Frag) (kvs : List (List Int × Int)) : Value → Bool
  | .ref a => (match K.lookup a with
    | some o => (match o.cls, o.dict, o.data with
      | .type c, none, .dict es _ => decide (c = "dict") && decide (o.slots.size = 0) && dicEs K kvs es.toList && decide ((kvs.map (·.1)).Nodup)
      | _, _, _ => false)
    | none => false)
  | _ => false
/-- the dict that u is -/
def DicIs (P : Program) (w : World) (K : PySem.W.Frag) (kvs : List (List Int × Int)) (u : Value) : Prop := ∃ a, u = .ref a ∧ ∀ h : Heap, K.In h → ∃ xs, h.DictOfH (tupleKind (mixKind P w)) a xs ∧ ∀ ks v, kvs.lookup ks = some v → ∃ b t, atKey xs (ks.map Sum.inl) = some (b, .int v t)
theorem intsB_ok {P : Program} {w : World} : ∀ {ks : List Int} {vs : List Value}, intsB ks vs = true → ItemsAre (mixKind P w) (ks.map Sum.inl) vs
  | [], vs, h => by
    cases vs with
    | nil => exact .nil
    | cons _ _ => simp [intsB] at h
  | i :: is, vs, h => by
    cases vs with
    | nil => simp [intsB] at h
    | cons v vs =>
      cases v <;> first | (simp [intsB] at h; done) | skip
      simp only [intsB, Bool.and_eq_true, decide_eq_true_eq] at h
      obtain ⟨rfl, h⟩ := h
      exact .cons (kV_is (k := .inl i) ⟨_, rfl⟩) (intsB_ok h)
theorem tupB_ok {P : Program} {w : World} {K : PySem.W.Frag} {ks : List Int} {b : Addr} {h : Heap} (X : K.In h) (e : tupB K ks b = true) : (tupleKind (mixKind P w)).is h (ks.map Sum.inl) b := by
  unfold tupB at e
  cases hl : K.lookup b with
  | none => rw [hl] at e; cases e
  | some o =>
    rw [hl] at e
    simp only at e
    split at e
    · rename_i c its n hc hd
      simp only [Bool.and_eq_true, decide_eq_true_eq] at e
      obtain ⟨rfl, e⟩ := e
      exact ⟨o, its, n, X _ _ hl, hc, hd, intsB_ok e⟩
    · cases e
theorem keyHash_ok {P : Program} {w : World} (ks : List Int) : (tupleKind (mixKind P w)).hash (ks.map Sum.inl) = keyHash ks := by
  show reduceHash (Builtin.Tuple.tupleHashOf ((ks.map Sum.inl).map (keyH w))) = _
  rw [List.map_map]
  rfl
theorem dicEs_ok {P : Program} {w : World} {K : PySem.W.Frag} : ∀ {kvs : List (List Int × Int)} {es : List DictEntry}, dicEs K kvs es = true → ∃ xs : List (List Key × Addr × Value), es = xs.map (entryOfKey (tupleKind (mixKind P w))) ∧ xs.map (·.1) = kvs.map (fun p => p.1.map Sum.inl) ∧
    (∀ h : Heap, K.In h → ∀ x ∈ xs, (tupleKind (mixKind P w)).is h x.1 x.2.1) ∧ ∀ ks v, kvs.lookup ks = some v → ∃ b t, atKey xs (ks.map Sum.inl) = some (b, .int v t)
  | [], es, h => by
    cases es with
    | nil => exact ⟨[], rfl, rfl, fun _ _ x hx => by simp at hx, fun ks v h => by simp at h⟩
    | cons _ _ => simp [dicEs] at h
  | (ks, v) :: r, es, h => by
    cases es with
    | nil => simp [dicEs] at h
    | cons e es =>
      simp only [dicEs] at h
      split at h
      · rename_i b w' t hk hv
        simp only [Bool.and_eq_true, decide_eq_true_eq] at h
        obtain ⟨⟨⟨h1, rfl⟩, h3⟩, h4⟩ := h
        obtain ⟨xs, e1, e2, e3, e4⟩ := dicEs_ok (P := P) (w := w) h4
        refine ⟨(ks.map Sum.inl, b, .int w' t) :: xs, ?_, by rw [List.map_cons, e2]; rfl, fun h X x hx => ?_, fun ks' v' hl => ?_⟩
        · rw [List.map_cons, ← e1]
          congr 1
          cases e
          simp only at hk hv h3
          subst hk hv h3
          show _ = DictEntry.mk ((tupleKind (mixKind P w)).hash (ks.map Sum.inl)) _ _
          rw [keyHash_ok]
        · rcases List.mem_cons.mp hx with rfl | hx
          · exact tupB_ok X h1
          · exact e3 h X x hx
        · rw [List.lookup_cons] at hl
          unfold atKey
          by_cases he : ks' = ks
          · subst he
            simp only [beq_self_eq_true] at hl
            cases hl
            exact ⟨b, t, by simp⟩
          · have hne : (ks' == ks) = false := by simpa using he
            rw [hne] at hl
            obtain ⟨b', t', e5⟩ := e4 ks' v' hl
            unfold atKey at e5
            have hn2 : ¬ (ks.map Sum.inl : List Key) = ks'.map Sum.inl := fun z => he (by
              have := congrArg (List.map fun k : Key => match k with | .inl i => i | .inr _ => 0) z
              simp only [List.map_map] at this
              have id1 : ∀ l : List Int, l.map ((fun k : Key => match k with | .inl i => i | .inr _ => 0) ∘ Sum.inl) = l := fun l => by
                induction l with
                | nil => rfl
                | cons a l ih => rw [List.map_cons, ih]; rfl
              rw [id1, id1] at this
              exact this.symm)
            refine ⟨b', t', ?_⟩
            rw [List.find?_cons_of_neg (by simpa using hn2)]
            exact e5
      · cases h
theorem dicB_ok {P : Program} {w : World} {K : PySem.W.Frag} {kvs : List (List Int × Int)} {u : Value} (h : dicB K kvs u = true) : DicIs P w K kvs u := by
  cases u <;> first | (simp [dicB] at h; done) | skip
  rename_i a
  simp only [dicB] at h
  cases hl : K.lookup a with
  | none => rw [hl] at h; simp at h
  | some o =>
    rw [hl] at h
    simp only at h
    split at h
    · rename_i c es ep hc hd hdt
      simp only [Bool.and_eq_true, decide_eq_true_eq] at h
      obtain ⟨⟨⟨rfl, h2⟩, h3⟩, h4⟩ := h
      obtain ⟨xs, e1, e2, e3, e4⟩ := dicEs_ok (P := P) (w := w) h3
      refine ⟨a, rfl, fun hp X => ⟨xs, ⟨o, es, ep, X _ _ hl, ⟨hc, hd, Array.eq_empty_of_size_eq_zero h2⟩, hdt, e1, e3 hp X, ?_⟩, e4⟩⟩
      rw [e2]
      have : kvs.map (fun p => (p.1.map Sum.inl : List Key)) = (kvs.map (·.1)).map (fun l => l.map Sum.inl) := by rw [List.map_map]; rfl
      rw [this]
      refine List.Pairwise.map _ (fun x y hne z => hne ?_) h4
      have := congrArg (List.map fun k : Key => match k with | .inl i => i | .inr _ => 0) z
      simp only [List.map_map] at this
      have id1 : ∀ l : List Int, l.map ((fun k : Key => match k with | .inl i => i | .inr _ => 0) ∘ Sum.inl) = l := fun l => by
        induction l with
        | nil => rfl
        | cons a l ih => rw [List.map_cons, ih]; rfl
      rw [id1, id1] at this
      exact this
    · cases h
section
variable {X : Cx} {B : Sx} {L : Lib} {i : Expr} {e' : E} {pos p : Pos}
theorem snd_gdx {x : Str} {u : Value} {g : Nat} {kvs : List (List Int × Int)} (hK : X.K = B.K) (hu : X.A.units + 1 < cLine) (hg : Gl X x) (hm : X.mg x = some u) (hd : (x == ("__debug__" : Str)) = false) (hdic : DicIs X.prog X.w X.K kvs u) (hL : L.dic g = some kvs) (hi : PE X i (rdE B L e')) (hs : NoSl i) :
    PE X (.Subscript (.Name x p) i pos) (rdE B L (.gdx g e')) := by
  obtain ⟨a, rfl, hdic⟩ := hdic
  refine ⟨fun pins s σ H Q I ⟨env, U, gd, h⟩ => ?_⟩
  simp only [eval] at h
  refine subD_of PySem.F.slot_dict_getitem.lookup hs (thn ((pe_glob (pos := p) hg hm (v := .ref a) rfl hd).run pins s σ H (fun v H1 => v = .ref a ∧ H1 = H) I ⟨rfl, rfl⟩) fun u s1 ⟨x, H1, I1, rx, ex, eH⟩ => ?_)
  subst ex eH
  obtain rfl : u = Value.ref a := rx
  refine thn (hi.run pins s1 σ H1 (fun y H2 => ∃ env1 U2 d, Gd B.K B.F σ env1 U2 H2 ∧ Rep B.K U2 H2 y d ∧ (∀ b, H2 b = none → H1 b = none) ∧ Wp B σ env1 U2 H2 (pureR ((L.dic g).bind fun kvs => dicD kvs d) env1) fun x env' U' H' => ∀ v, VRep B.K σ env' U' H' H1 v x.1 x.2 → Q v H') I1
    ⟨env, U, gd, (rep_bind gd h).imp fun x env1 U1 H1 _ p1 h1 v vr => ?_⟩) fun iv s2 ⟨y, H2, I2, ry, env1, U2, d, g2, r2, bk, h2⟩ => ?_
  · obtain ⟨U2, p2, r2, h2⟩ := h1 v vr
    exact ⟨env1, U2, x.1, p2.good, r2, p2.back, h2⟩
  · obtain ⟨r, eo, h3⟩ := h2.pure
    rw [hL, Option.bind_some] at eo
    cases d <;> try (simp [dicD] at eo; done)
    rename_i ds
    simp only [dicD] at eo
    cases hi : allInts ds with
    | none => rw [hi] at eo; cases eo
    | some ks =>
      rw [hi] at eo
      simp only [Option.bind_some] at eo
      cases hk : kvs.lookup ks with
      | none => rw [hk] at eo; cases eo
      | some v =>
        rw [hk] at eo
        cases eo
        obtain ⟨b, vs, rfl, h4, h5⟩ := (Pk.sh r2).tup
        have e1 := reps_ints h5 hi
        subst e1
        obtain rfl : iv = Value.ref b := ry
        obtain ⟨xs, dd, hat⟩ := hdic s2.heap I2.kIn
        obtain ⟨c, t, hat⟩ := hat ks v hk
        refine ⟨dd.typeIs, ?_⟩
        obtain ⟨its, rv, ht, hz⟩ := I2.tuple (hK ▸ h4)
        obtain ⟨o, ho, hc, n, hdt⟩ := ht
        have hkey : (tupleKind (mixKind X.prog X.w)).is s2.heap (ks.map Sum.inl) b := ⟨o, its.toArray, n, ho, hc, hdt, by
          have : (ks.map Sum.inl).map kV = ks.map V.int := by rw [List.map_map]; rfl
          rw [← this] at rv
          simpa using items_are rv⟩
        refine wpAny_getItem_heap (tupleKind_room_in1 hu) hkey dd hat ?_
        exact ⟨.int v, H2, I2.tok _, ⟨t, rfl⟩, h3 _ _ (.refl g2) _ (.int v)⟩
end
end Pi

set_option Elab.async false
set_option linter.all false
set_option maxRecDepth 100000
set_option maxHeartbeats 4000000
/-! PiFb: list({x: True for x in e}), tuples of ints. -/
namespace Pi
open PySem PySem.Spec PyProof.Rows L2
variable [HasT]

/-- each key where it first stood -/
def uqs (l : List (List Key × Addr)) : List (List Key × Addr × Value) := l.foldl (fun xs p => storedH xs p.1 p.2 (.bool true)) []
theorem uqs_snoc (l : List (List Key × Addr)) (p : List Key × Addr) : uqs (l ++ [p]) = storedH (uqs l) p.1 p.2 (.bool true) := by
  unfold uqs
  rw [List.foldl_append]
  rfl
theorem storedH_mem {xs : List (List Key × Addr × Value)} {k : List Key} {a : Addr} {v : Value} {x : List Key × Addr × Value} (h : x ∈ storedH xs k a v) : (∃ y ∈ xs, (x.1, x.2.1) = (y.1, y.2.1)) ∨ (x.1, x.2.1) = (k, a) := by
  unfold storedH at h
  split at h
  · obtain ⟨y, hy, e⟩ := List.mem_map.mp h
    refine .inl ⟨y, hy, ?_⟩
    subst e
    unfold putAt
    split <;> rfl
  · rcases List.mem_append.mp h with h | h
    · exact .inl ⟨x, h, rfl⟩
    · rw [List.mem_singleton] at h
      subst h
      exact .inr rfl
theorem uqs_mem : ∀ (l : List (List Key × Addr)) (xs : List (List Key × Addr × Value)) {x : List Key × Addr × Value}, x ∈ l.foldl (fun xs p => storedH xs p.1 p.2 (.bool true)) xs → (∃ y ∈ xs, (x.1, x.2.1) = (y.1, y.2.1)) ∨ (x.1, x.2.1) ∈ l
  | [], xs, x, h => .inl ⟨x, h, rfl⟩
  | p :: l, xs, x, h => by
    rcases uqs_mem l _ h with ⟨y, hy, e⟩ | e
    · rcases storedH_mem hy with ⟨z, hz, e2⟩ | e2
      · exact .inl ⟨z, hz, e.trans e2⟩
      · exact .inr (by rw [e, e2]; exact List.mem_cons_self)
    · exact .inr (List.mem_cons_of_mem _ e)
theorem uqs_in {l : List (List Key × Addr)} {x : List Key × Addr × Value} (h : x ∈ uqs l) : (x.1, x.2.1) ∈ l := by
  rcases uqs_mem l [] h with ⟨y, hy, _⟩ | e
  · cases hy
  · exact e
theorem storedH_len (xs : List (List Key × Addr × Value)) (k : List Key) (a : Addr) (v : Value) : (storedH xs k a v).length ≤ xs.length + 1 := by
  unfold storedH
  split
  · simp
  · simp
theorem uqs_len : ∀ (l : List (List Key × Addr)) (xs : List (List Key × Addr × Value)), (l.foldl (fun xs p => storedH xs p.1 p.2 (.bool true)) xs).length ≤ xs.length + l.length
  | [], xs => by simp
  | p :: l, xs => by
    have h1 := uqs_len l (storedH xs p.1 p.2 (.bool true))
    have h2 := storedH_len xs p.1 p.2 (.bool true)
    simp only [List.foldl_cons, List.length_cons]
    omega
theorem offU {b N C : Nat} (hb : b < N ∨ b = C) (hC : N + 1 ≤ C) : ¬ b = N := by omega
theorem neU {b N C : Nat} (hb : b < N + 1) (hC : N + 1 ≤ C) : b ≠ C := by omega
/-- the names of such a block -/
def uqSc (scope : Scope) (x : Str) : Bool := decide (scope.kind = .function) && decide (scope.names.lookup x = some .local) && scope.names.all fun y => decide (y.2 = .local) && decide (scope.names.lookup y.1 = some .local)

section
variable {prog : Program} {w : World} {A : Around} {env : PySem.Env} {s : Shared}
theorem dc_uniq {scope : Scope} {l : Addr} {ks : List (List Key × Addr)} {x : Str} {kd : Nat} {pa pe pc : Pos} {Q : Value → Shared → Prop} {E : Value → Shared → Prop} {cl : List (Str × Addr)} (hh : A.handled = none) (hu : A.units < cLine) (hsc : uqSc scope x = true)
    (hd : (x == ("__debug__" : Str)) = false) (hsz : ks.length ≤ sizeLine)
    {m0 : Prop} (hl : (s.heap.IsList l (ks.map fun p => Value.ref p.2).toArray) ∨ s.heap.IsTuple l (ks.map fun p => Value.ref p.2).toArray) (hk : ∀ p ∈ ks, (tupleKind (mixKind prog w)).is s.heap p.1 p.2)
    (h : ∀ D h' tk, s.heap.objs.size ≤ D → h'.DictOfH (tupleKind (mixKind prog w)) D (uqs ks) → (∀ b o, s.heap.get? b = some o → h'.get? b = some o) → Q (.ref D) { s with heap := h', toks := tk }) :
    wpAny (model prog w) A (pyIter (.ref l)) (DcGoes prog w A E env scope cl (.Name x pa) [] (.Name x pe) (.Constant (.bool true) kd pc) none Q) E s := by
  unfold uqSc at hsc
  simp only [Bool.and_eq_true, decide_eq_true_eq] at hsc
  obtain ⟨⟨hkind, hx⟩, _⟩ := hsc
  have main : ∀ (I : Obj) (Y : Nat → Value → Heap → Prop) (St : Nat → Heap → Prop), (∀ i v h, Y i v h → (ks.map fun p => Value.ref p.2).toArray[i]? = some v) →
      Goes prog w A (.Name x pa) s.heap.objs.size [s.heap.objs.size, l] [s.heap.objs.size] (ks.map fun p => Value.ref p.2).toArray.size Y St → St 0 (s.heap.push I) → l < s.heap.objs.size →
      DcGoes prog w A E env scope cl (.Name x pa) [] (.Name x pe) (.Constant (.bool true) kd pc) none Q (.ref s.heap.objs.size) { s with heap := s.heap.push I } := by
    intro I Y St hY W st0 hlt
    refine ⟨_, _, _, _, _, _, rfl, W, st0, fun D C s₃ hB hD0 => ?_⟩
    obtain ⟨⟨h₃, tk₃, rfl⟩, old, nD, nC, hDC, hnm⟩ := hB
    have nC' : (s.heap.objs.size + 1 : Nat) ≤ C := by
      have q : (s.heap.push I).objs.size ≤ C := nC
      rw [Heap.size_push] at q
      exact q
    have nD' : (s.heap.objs.size + 1 : Nat) ≤ D := by
      have q : (s.heap.push I).objs.size ≤ D := nD
      rw [Heap.size_push] at q
      exact q
    have hDC' : (D : Nat) ≠ C := hDC
    have kx : (compEnvC scope cl C env).kindOf x = some .local := lookup_relabel_local hx
    have hp : ((compEnvC scope cl C env).scope.kind == .class || ((compEnvC scope cl C env).scope.kind == .module && (compEnvC scope cl C env).locals != (compEnvC scope cl C env).globals)) = false := by
      show (scope.kind == .class || (scope.kind == .module && _)) = false
      rw [hkind]; rfl
    have isAt : ∀ {h' : Heap}, (∀ b o, s.heap.get? b = some o → h'.get? b = some o) → ∀ p ∈ ks, (tupleKind (mixKind prog w)).is h' p.1 p.2 := fun {h'} k p hp => tupleKind_stays.stays (fun b o _ _ e _ => k b o e) (hk p hp)
    have sub : ∀ (i : Nat) (y : List Key × Addr × Value), y ∈ uqs (ks.take i) → (y.1, y.2.1) ∈ ks := fun i y hy => List.mem_of_mem_take (uqs_in hy)
    have dAt : ∀ {h1 h2 : Heap} {i : Nat}, h1.DictOfH (tupleKind (mixKind prog w)) D (uqs (ks.take i)) → (∀ o, h1.get? D = some o → h2.get? D = some o) → (∀ b o, s.heap.get? b = some o → h2.get? b = some o) → h2.DictOfH (tupleKind (mixKind prog w)) D (uqs (ks.take i)) :=
      fun {h1 h2 i} hm hd k => by
        obtain ⟨o, es, ep, e1, e2, e3, e4, _, e6⟩ := hm
        exact ⟨o, es, ep, hd _ e1, e2, e3, e4, fun y hy => isAt k _ (sub i y hy), e6⟩
    refine ⟨fun i s₁ => ∃ h' tk m, s₁ = { s with heap := h', toks := tk } ∧ h'.Ns C m ∧ h'.DictOfH (tupleKind (mixKind prog w)) D (uqs (ks.take i)) ∧ ∀ b o, s.heap.get? b = some o → h'.get? b = some o, ?_, ?_, ?_, ?_⟩
    · exact ⟨h₃, tk₃, _, rfl, hnm, ⟨_, #[], 0, hD0, ⟨rfl, rfl, rfl⟩, rfl, rfl, (fun _ hx => by cases hx), List.nodup_nil⟩, fun b o e => old b o (Heap.get?_push_of_some _ e)⟩
    · rintro i s₁ h' tk ⟨h₄, tk₄, m, rfl, n₄, d₄, k₄⟩ hk' _
      have off : ∀ b : Addr, (b < s.heap.objs.size ∨ b = C) → b ∉ [s.heap.objs.size] := fun b hb hm => offU hb nC' (by simpa using hm)
      have k' : ∀ b o, s.heap.get? b = some o → h'.get? b = some o := fun b o e => hk' b o (off _ (.inl (Heap.lt_size e))) (k₄ b o e)
      exact ⟨h', tk, m, rfl, n₄.at' fun o e => hk' _ o (off _ (.inr rfl)) e, dAt d₄ (fun o e => hk' D o (fun hm => offU (.inr rfl) nD' (by simpa using hm)) e) k', k'⟩
    · rintro i v s₁ hi hv st ⟨h₄, tk₄, m, rfl, n₄, d₄, k₄⟩
      have hv := hY i v _ hv
      have hi' : i < ks.length := by simpa using hi
      obtain ⟨p, hp1⟩ : ∃ p, ks[i]? = some p := ⟨_, List.getElem?_eq_getElem hi'⟩
      have ev : v = .ref p.2 := by
        have : (ks.map fun p => Value.ref p.2)[i]? = some v := by simpa using hv
        rw [List.getElem?_map, hp1] at this
        exact (Option.some.inj this).symm
      subst ev
      have hpm : p ∈ ks := List.mem_of_getElem? hp1
      refine wpAny_assign_Name (wpAny_storeName_local kx n₄ (fun h₅ n₅ s₅ => ?_) hp)
      refine wpAny_tests_nil ?_
      have offC : ∀ b : Addr, b < s.heap.objs.size + 1 → b ≠ C := fun b hb => neU hb nC'
      have k₅ : ∀ b o, s.heap.get? b = some o → h₅.get? b = some o := fun b o e => s₅.extBut b o (offC b (Nat.lt_succ_of_lt (Heap.lt_size e))) (k₄ b o e)
      show wpAny _ _ _ _ _ _
      rw [eval_Name _ _ _ hd]
      refine wpAny_bind (wpAny_standAt (wpAny_loadName_local hkind kx n₅ (v := .ref p.2) (if_pos rfl) ?_))
      refine wpAny_Constant_bool ?_
      refine wpAny_dictSet_heap (s := { s with heap := h₅, toks := _ }) hu (isAt k₅ p hpm) (dAt d₄ (fun o e => s₅.extBut _ o hDC e) k₅) (fun h₆ d₆ s₆ => ?_) (hsz := ?_)
      · have k₆ : ∀ b o, s.heap.get? b = some o → h₆.get? b = some o := fun b o e => (s₆.2 b (fun z => by
          have h1 := Heap.lt_size e
          rw [z] at h1
          exact Nat.lt_irrefl _ (Nat.lt_of_lt_of_le h1 (Nat.le_trans (Nat.le_succ _) nD')))).trans (k₅ b o e)
        have et : ks.take (i + 1) = ks.take i ++ [p] := by rw [List.take_add_one, hp1]; rfl
        refine ⟨⟨h₆, _, _, rfl, n₅.at' fun o e => (s₆.2 C (fun z => hDC z.symm)).trans e, ?_, k₆⟩, ?_⟩
        · rw [et, uqs_snoc]
          exact d₆
        · refine W.frame _ _ _ st fun b hb o e => ?_
          have hb' : b < s.heap.objs.size + 1 := by
            rcases List.mem_cons.mp hb with z | z
            · rw [z]; exact Nat.lt_succ_self _
            · rw [List.mem_singleton] at z
              rw [z]; exact Nat.lt_succ_of_lt hlt
          refine (s₆.2 b (fun z => ?_)).trans (s₅.extBut b o (offC b hb') e)
          rw [z] at hb'
          exact Nat.lt_irrefl _ (Nat.lt_of_lt_of_le hb' nD')
      · have := uqs_len (ks.take i) []
        have h2 : (uqs (ks.take i)).length ≤ 0 + (ks.take i).length := this
        rw [List.length_take] at h2
        omega
    · rintro s₁ ⟨h₄, tk₄, m, rfl, n₄, d₄, k₄⟩
      refine ⟨m, n₄, fun h' hs' => ?_⟩
      have k' : ∀ b o, s.heap.get? b = some o → h'.get? b = some o := fun b o e => hs'.extBut b o (neU (Nat.lt_succ_of_lt (Heap.lt_size e)) nC') (k₄ b o e)
      have d' := dAt d₄ (fun o e => hs'.extBut D o hDC e) k'
      have ez : ks.take (ks.map fun p => Value.ref p.2).toArray.size = ks := List.take_of_length_le (by simp)
      rw [ez] at d'
      exact h D h' tk₄ (Nat.le_trans (Nat.le_succ _) nD') d' k'
  rcases hl with hl | hl
  · have hlt : (l : Nat) < s.heap.objs.size := by obtain ⟨o, ho, _⟩ := hl; exact Heap.lt_size ho
    exact wpAny_pyIter_list hl (main _ _ _ (fun _ _ _ h => h) (Goes.list hh s.heap.objs.size l (Nat.ne_of_lt hlt) _) ⟨⟨_, Heap.get?_push_size _ rfl, rfl, rfl⟩, hl.push _⟩ hlt)
  · have hlt : (l : Nat) < s.heap.objs.size := by obtain ⟨o, ho, _⟩ := hl; exact Heap.lt_size ho
    exact wpAny_pyIter_tuple hl (main _ _ _ (fun _ _ _ h => h) (Goes.tuple hh s.heap.objs.size l (Nat.ne_of_lt hlt) _) ⟨⟨_, Heap.get?_push_size _ rfl, rfl, rfl⟩, hl.at fun o e => Heap.get?_push_of_some _ e⟩ hlt)
end

/-! ### the keys, as data -/
theorem eqbs_ints : ∀ {ds es : List D} {is js : List Int}, allInts ds = some is → allInts es = some js → D.eqbs ds es = decide (is = js)
  | [], [], is, js, h1, h2 => by
    simp only [allInts] at h1 h2
    cases h1; cases h2
    simp [D.eqbs]
  | [], e :: es, is, js, h1, h2 => by
    simp only [allInts] at h1
    cases h1
    cases e <;> simp only [allInts] at h2 <;> try (cases h2; done)
    cases q : allInts es with
    | none => rw [q] at h2; cases h2
    | some r => rw [q] at h2; cases h2; simp [D.eqbs]
  | d :: ds, [], is, js, h1, h2 => by
    simp only [allInts] at h2
    cases h2
    cases d <;> simp only [allInts] at h1 <;> try (cases h1; done)
    cases q : allInts ds with
    | none => rw [q] at h1; cases h1
    | some r => rw [q] at h1; cases h1; simp [D.eqbs]
  | d :: ds, e :: es, is, js, h1, h2 => by
    cases d <;> simp only [allInts] at h1 <;> try (cases h1; done)
    cases e <;> simp only [allInts] at h2 <;> try (cases h2; done)
    cases q1 : allInts ds with
    | none => rw [q1] at h1; cases h1
    | some r1 =>
      cases q2 : allInts es with
      | none => rw [q2] at h2; cases h2
      | some r2 =>
        rw [q1] at h1; rw [q2] at h2
        cases h1; cases h2
        simp only [D.eqbs, D.eqb]
        rw [eqbs_ints q1 q2]
        by_cases hi : r1 = r2 <;> simp [hi, List.cons.injEq, Bool.decide_and]
        exact rfl
theorem eqb_ints {d e : D} {is js : List Int} (h1 : intTup d = some is) (h2 : intTup e = some js) : d.eqb e = decide (is = js) := by
  cases d <;> simp only [intTup] at h1 <;> try (cases h1; done)
  cases e <;> simp only [intTup] at h2 <;> try (cases h2; done)
  simp only [D.eqb]
  exact eqbs_ints h1 h2
/-- an entry of the dict and the datum that it stands for -/
def EnD (K : PySem.W.Frag) (U : Addr → Prop) (H : Hp) (y : List Key × Addr × Value) (d : D) : Prop := Rep K U H (.ref y.2.1) d ∧ ∃ is, intTup d = some is ∧ y.1 = is.map Sum.inl
theorem inl_inj {is js : List Int} (h : (is.map Sum.inl : List Key) = js.map Sum.inl) : is = js := by
  have := congrArg (List.map fun k : Key => match k with | .inl i => i | .inr _ => 0) h
  simp only [List.map_map] at this
  have id1 : ∀ l : List Int, l.map ((fun k : Key => match k with | .inl i => i | .inr _ => 0) ∘ Sum.inl) = l := fun l => by
    induction l with
    | nil => rfl
    | cons a l ih => rw [List.map_cons, ih]; rfl
  rw [id1, id1] at this
  exact this
section
variable {K : PySem.W.Frag} {U : Addr → Prop} {H : Hp}
theorem enD_at {ys : List (List Key × Addr × Value)} {ds : List D} (r : Paired (EnD K U H) ys ds) {e : D} {js : List Int} (he : intTup e = some js) : (atKey ys (js.map Sum.inl)).isSome = ds.any fun y => y.eqb e := by
  induction r with
  | nil => rfl
  | @cons y d ys ds h t ih =>
    obtain ⟨_, is, h1, h2⟩ := h
    rw [List.any_cons, eqb_ints h1 he]
    unfold atKey at ih ⊢
    rw [List.find?_cons]
    by_cases hk : y.1 = js.map Sum.inl
    · have e1 : is = js := inl_inj (h2.symm.trans hk)
      simp [hk, e1]
    · have e1 : ¬ is = js := fun z => hk (by rw [h2, z])
      rw [decide_eq_false hk, decide_eq_false e1, Bool.false_or]
      exact ih
theorem enD_put {ys : List (List Key × Addr × Value)} {ds : List D} (r : Paired (EnD K U H) ys ds) (k : List Key) (v : Value) : Paired (EnD K U H) (ys.map (putAt k v)) ds := by
  induction r with
  | nil => exact .nil
  | @cons y d ys ds h t ih =>
    refine .cons ?_ ih
    unfold putAt
    split
    · exact h
    · exact h
theorem enD_uq : ∀ {ks : List (List Key × Addr)} {es : List D} {ys : List (List Key × Addr × Value)} {ds : List D}, Paired (fun p d => EnD K U H (p.1, p.2, .none) d) ks es → Paired (EnD K U H) ys ds →
    Paired (EnD K U H) (ks.foldl (fun xs p => storedH xs p.1 p.2 (.bool true)) ys) (uniqL ds es)
  | [], _, ys, ds, .nil, r => r
  | p :: ks, _, ys, ds, .cons (b := e) (l₂ := es) h t, r => by
    simp only [List.foldl_cons, uniqL]
    refine enD_uq t ?_
    obtain ⟨h1, js, h2, h3⟩ := h
    have h3 : p.1 = js.map Sum.inl := h3
    have q := enD_at r h2
    unfold storedH
    rw [h3, q]
    cases hq : ds.any fun y => y.eqb e with
    | true => simp only [if_true]; exact enD_put r _ _
    | false =>
      simp only [Bool.false_eq_true, if_false]
      exact Paired.snoc r ⟨h1, js, h2, rfl⟩
theorem enD_reps {ys : List (List Key × Addr × Value)} {ds : List D} (r : Paired (EnD K U H) ys ds) : RepAll K U H (ys.map fun y => V.ref y.2.1) ds := by
  induction r with
  | nil => exact .nil
  | cons h t ih => exact .cons h.1 ih
end
section
variable {X : Cx} {B : Sx} {L : Lib} {pins : List (Addr × Obj)} {σ : L2.St} {H : Hp} {s : Shared} {U : Addr → Prop}
/-- int tuples that stand in the heap, as keys -/
theorem enD_keys (hK : X.K = B.K) (I : Inv X pins σ H s) : ∀ {vs : List V} {ds : List D} {us : List Value}, RepAll B.K U H vs ds → Vals vs us → (ds.all fun d => (intTup d).isSome) = true →
    ∃ ks : List (List Key × Addr), us = ks.map (fun p => Value.ref p.2) ∧ (∀ p ∈ ks, (tupleKind (mixKind X.prog X.w)).is s.heap p.1 p.2) ∧ Paired (fun p d => EnD B.K U H (p.1, p.2, .none) d) ks ds
  | [], _, _, .nil, .nil, _ => ⟨[], rfl, fun _ h => (by cases h), .nil⟩
  | v :: vs, _, _, .cons (d := d) (ds := ds) r t, .cons rv t2, h => by
    simp only [List.all_cons, Bool.and_eq_true] at h
    obtain ⟨ks, e1, e2, e3⟩ := enD_keys hK I t t2 h.2
    cases hi : intTup d with
    | none => rw [hi] at h; simp at h
    | some is =>
      cases d <;> simp only [intTup] at hi <;> try (cases hi; done)
      rename_i xs
      have r0 := r
      obtain ⟨b, ws, rfl, h4, h5⟩ := (Pk.sh r).tup
      have ew := reps_ints h5 hi
      subst ew
      cases rv
      obtain ⟨its, rw', ht, hz⟩ := I.tuple (hK ▸ h4)
      obtain ⟨o, ho, hc, n, hdt⟩ := ht
      have hkey : (tupleKind (mixKind X.prog X.w)).is s.heap (is.map Sum.inl) b := ⟨o, its.toArray, n, ho, hc, hdt, by
        have e : ((is.map Sum.inl : List Key)).map kV = is.map V.int := by rw [List.map_map]; rfl
        rw [← e] at rw'
        simpa using items_are rw'⟩
      refine ⟨(is.map Sum.inl, b) :: ks, by rw [e1]; rfl, fun p hp => ?_, .cons ⟨r0, is, hi, rfl⟩ e3⟩
      rcases List.mem_cons.mp hp with rfl | hp
      · exact hkey
      · exact e2 p hp
theorem uqSc_closure {scope : Scope} {x : Str} {env : PySem.Env} (h : uqSc scope x = true) : ∀ y ∈ scope.names, y.2 = .free → ∃ c, env.cells.lookup y.1 = some c := fun y hy e => by
  unfold uqSc at h
  simp only [Bool.and_eq_true, decide_eq_true_eq, List.all_eq_true] at h
  have := (h.2 y hy).1
  rw [e] at this
  cases this
/-- list({x: True for x in e}) -/
theorem snd_uniq {a : Expr} {a' : E} {x : Str} {kd : Nat} {scope : Scope} {p pa pe pc pos q : Pos} (hK : X.K = B.K) (hc : X.calm = true) (hu : X.A.units + 1 < cLine) (hg : Gl X "list") (hm : X.mg "list" = none) (ha : PE X a (rdA B L a')) (hsc : uqSc scope x = true) (hd : (x == ("__debug__" : Str)) = false)
    (hs : ∀ y, foldedSetIterable a X.env y = pure y) : PE X (.Call (.Name "list" p) [.DictComp (.Name x pe) (.Constant (.bool true) kd pc) [⟨.Name x pa, a, [], 0⟩] scope q] [] pos) (rdE B L (.uniq a')) := by
  refine ⟨fun pins s σ H Q I h => ?_⟩
  have h1 := rd_1 (f := uniqD) (a' := a') (fun env => by simp only [eval]) h
  have hsc' := hsc
  unfold uqSc at hsc'
  simp only [Bool.and_eq_true, decide_eq_true_eq, List.all_eq_true] at hsc'
  obtain ⟨⟨hkind, hx⟩, hall⟩ := hsc'
  refine Call_ (ld_blt I hg hm PyProof.Rows.boot_list (PyProof.Rows.callWith_type1 (PyProof.Rows.args_cons ?_ rfl) rfl rfl))
  refine DictComp_goes (closure_ok (uqSc_closure hsc)) (fun y hy e => by rw [(hall y hy).1] at e; cases e) hkind (fun y hy _ => (hall y hy).2) ?_ hs
  refine thn (ha.run pins s σ H _ I h1) fun u s1 ⟨v, H1, I1, r1, env1, U1, d, g1, pk, k⟩ => ?_
  obtain ⟨r, fr, e1, k⟩ := k
  have fin : ∀ (l : Addr) (vs : List V) (xs : List D) (us : List Value), Vals vs us → RepAll B.K U1 H1 vs xs → (xs.all fun d => (intTup d).isSome) = true ∧ xs.length ≤ 100000 → (s1.heap.IsList l us.toArray ∨ s1.heap.IsTuple l us.toArray) → u = .ref l → r = .lst (uniqL [] xs) → fr = true →
      wpAny (model X.prog X.w) X.A (pyIter u) (DcGoes X.prog X.w X.A X.xe X.env scope (cloFrom X.env.cells scope.names []) (.Name x pa) [] (.Name x pe) (.Constant (.bool true) kd pc) none
        (fun v s₁ => wpAny (model X.prog X.w) X.A (spliced (backTo pos (starEach [] X.env))) (fun vs s₂ => wpAny (model X.prog X.w) X.A (call (.type "list") (v :: vs)) (EP X pins σ Q) X.xe s₂) X.xe s₁)) X.xe s1 := by
    intro l vs xs us rv rep hx2 hl eu er ef
    subst eu er ef
    obtain ⟨ks, ek, his, pr⟩ := enD_keys hK I1 rep rv hx2.1
    subst ek
    have hlen : ks.length = xs.length := Paired.length pr
    have hz : ks.length ≤ sizeLine := by rw [hlen]; exact Nat.le_trans hx2.2 line100
    refine dc_uniq (m0 := True) (I1.ok.hd hc) (Nat.lt_of_succ_lt hu) hsc hd hz hl his fun D h' tk hD dd kp => ?_
    refine PyProof.Rows.args_nil ?_
    have I2 : Inv X pins σ H1 { s1 with heap := h', toks := tk } := I1.kept (t' := tk) kp
    have pu := enD_uq pr (ys := []) (ds := []) .nil
    have ru := enD_reps pu
    obtain ⟨o, es, ep, ho, hx3, hdt, he, hn, _⟩ := dd
    have l1 : es.size = (uqs ks).length := size_of_entries he
    have l2 : (uqs ks).length ≤ 0 + ks.length := uqs_len ks []
    have hDs : (D == sysModules) = false := by
      have hb := I1.big
      have : D ≠ sysModules := fun z => by
        rw [z] at hD
        exact Nat.lt_irrefl _ (Nat.lt_of_lt_of_le hb hD)
      simpa using this
    refine PySem.W.kdl_call (kdl_raw hDs hx3 hdt) (I2.ok.hd hc) ho (by omega) fun h2 tk2 acc' c' kp2 e2 it => ?_
    have ea : acc'.toList = (uqs ks).map fun x => Value.ref x.2.1 := by
      have hl : acc'.toList.length = (uqs ks).length := by rw [Array.length_toList, it.1]; exact l1
      apply List.ext_getElem?
      intro j
      rw [List.getElem?_map]
      cases hj : acc'.toList[j]? with
      | none =>
        have h1 := List.getElem?_eq_none_iff.mp hj
        rw [List.getElem?_eq_none (by omega)]
        rfl
      | some v =>
        obtain ⟨en, hen, hv⟩ := it.2 j v (by rw [← Array.getElem?_toList]; exact hj)
        have qe := entry_at he j
        rw [hen] at qe
        cases hb : (uqs ks)[j]? with
        | none => rw [hb] at qe; cases qe
        | some b =>
          rw [hb] at qe
          have e2 := Option.some.inj qe
          rw [hv, e2]
          rfl
    have rv2 : Vals ((uqs ks).map fun y => V.ref y.2.1) acc'.toList := by
      rw [ea]
      generalize uqs ks = l
      induction l with
      | nil => exact .nil
      | cons a l ih => exact .cons rfl ih
    have hlq : ((uqs ks).map fun y => V.ref y.2.1).length ≤ sizeLine := by rw [List.length_map]; omega
    have J : Inv X pins σ (upd H1 h'.objs.size (.lst ((uqs ks).map fun y => V.ref y.2.1))) { s1 with heap := h2, toks := tk2 } :=
      I2.laid (t' := tk2) kp2 (Nat.le_refl _) ⟨hlq, acc'.toList, c', rv2, by simpa using e2⟩
    have hnone : H1 h'.objs.size = none := I2.hok.fresh (Nat.le_refl _)
    obtain ⟨p3, vr⟩ := new_lst g1 hnone ru
    exact ⟨.ref h'.objs.size, _, J, rfl, k _ _ _ p3 vr⟩
  cases d <;> simp only [uniqD] at e1 <;> try (cases e1; done)
  · rename_i xs
    split at e1
    · rename_i hx2
      cases e1
      obtain ⟨l, vs, rfl, h4, h5⟩ := pk.tup
      obtain rfl : u = Value.ref l := r1
      obtain ⟨its, rv, ht, _⟩ := I1.tuple (hK ▸ h4)
      exact fin l vs xs its rv h5 hx2 (.inr ht) rfl rfl rfl
    · cases e1
  · rename_i xs
    split at e1
    · rename_i hx2
      cases e1
      obtain ⟨l, vs, rfl, h4, h5⟩ := pk.lst
      obtain rfl : u = Value.ref l := r1
      obtain ⟨its, rv, ht, _⟩ := I1.list (.inl h4)
      exact fin l vs xs its rv h5 hx2 (.inl ht.isList) rfl rfl rfl
    · cases e1
end
end Pi

set_option Elab.async false
set_option linter.all false
set_option maxRecDepth 100000
set_option maxHeartbeats 4000000
/-! PiFc: sorted(xs, key=lambda y: y[0] * (m // y[1])). -/
namespace Pi
open PySem PySem.Spec PyProof.Rows L2
variable [HasT]

/-- the lambda's body -/
def lamBody (y m : Str) (p1 p2 p3 p4 p5 p6 p7 p8 p9 : Pos) (k0 k1 : Nat) : Expr :=
  .BinOp (.Subscript (.Name y p1) (.Constant (.int 0) k0 p2) p3) .Mult (.BinOp (.Name m p4) .FloorDiv (.Subscript (.Name y p5) (.Constant (.int 1) k1 p6) p7) p8) p9
def lamPar (y : Str) (ap : Pos) : Arguments := ⟨[], [⟨y, none, ap⟩], none, [], [], none, []⟩
def lamSc (sc scope : Scope) (y m : Str) : Bool := decide (scope.kind = .function) && !scope.isCoroutine && !scope.isGenerator && decide (scope.names.lookup y = some .local) && decide (scope.names.lookup m = some .free) && decide (sc.names.lookup m = some .cell) &&
  (scope.names.all fun z => decide (z = (y, .local)) || decide (z = (m, .free))) && !decide (y = m) && !(y == ("__debug__" : Str)) && !(m == ("__debug__" : Str)) && !(m == ("__classdict__" : Str))
structure LamOk (sc scope : Scope) (y m : Str) : Prop where
  kind : scope.kind = .function
  co : scope.isCoroutine = false
  gen : scope.isGenerator = false
  loc : scope.names.lookup y = some .local
  fre : scope.names.lookup m = some .free
  cel : sc.names.lookup m = some .cell
  all : ∀ z ∈ scope.names, z = (y, .local) ∨ z = (m, .free)
  ne : y ≠ m
  yd : (y == ("__debug__" : Str)) = false
  md : (m == ("__debug__" : Str)) = false
  mc : (m == ("__classdict__" : Str)) = false
theorem lamSc_ok {sc scope : Scope} {y m : Str} (h : lamSc sc scope y m = true) : LamOk sc scope y m := by
  unfold lamSc at h
  simp only [Bool.and_eq_true, Bool.or_eq_true, Bool.not_eq_true', decide_eq_true_eq, decide_eq_false_iff_not, List.all_eq_true] at h
  obtain ⟨⟨⟨⟨⟨⟨⟨⟨⟨⟨h1, h2⟩, h3⟩, h4⟩, h5⟩, h6⟩, h7⟩, h8⟩, h9⟩, h10⟩, h11⟩ := h
  exact ⟨h1, h2, h3, h4, h5, h6, h7, h8, h9, h10, h11⟩
section
variable {prog : Program} {w : World} {A : Around} {s : Shared}
/-- the body in its frame -/
theorem key_body {env : PySem.Env} {E : Value → Shared → Prop} {Q : Value → Shared → Prop} {y m : Str} {p1 p2 p3 p4 p5 p6 p7 p8 p9 : Pos} {k0 k1 : Nat} {c b : Addr} {M t bt : Int} {tM tt tbt : Tok} {mm : Str → Option Value} (yd : (y == ("__debug__" : Str)) = false) (md : (m == ("__debug__" : Str)) = false) (mc : (m == ("__classdict__" : Str)) = false)
    (hk : env.scope.kind = .function) (hy : env.kindOf y = some .local) (hm : env.kindOf m = some .free) (hcl : env.cells.lookup m = some c) (hns : s.heap.Ns env.locals mm) (hv : mm y = some (.ref b)) (hc : s.heap.IsCell c (some (.int M tM))) (hb : IsTup s.heap b #[.int t tt, .int bt tbt]) (hko : divOk bt ∧ mulOk t (M / bt))
    (h : ∀ u tk, Q (.int (t * (M / bt)) u) { s with toks := tk }) : wpAny (model prog w) A (PySem.eval (lamBody y m p1 p2 p3 p4 p5 p6 p7 p8 p9 k0 k1) env) Q E s := by
  have sub : ∀ {s : Shared} {Q : Value → Shared → Prop} {p p' p'' : Pos} {k : Nat} (j : Nat) (v : Value), s.heap.Ns env.locals mm → IsTup s.heap b #[.int t tt, .int bt tbt] → j < 2 → (#[.int t tt, .int bt tbt] : Array Value)[j]? = some v → (∀ tk, Q v { s with toks := tk }) →
      wpAny (model prog w) A (PySem.eval (.Subscript (.Name y p) (.Constant (.int (j : Int)) k p') p'') env) Q E s := by
    intro s Q p p' p'' k j v hns hb hj hv' h
    refine wpAny_Subscript_Constant_late (wpAny_Name (wpAny_loadName_local hk hy hns hv (wpAny_Constant_int ⟨"tuple", _, PySem.F.slot_tuple_getitem.lookup, hb.typeIs, ?_⟩)) yd)
    refine PyProof.Rows.getItem_tuple hb (by omega) (by omega) (j := j) ?_ hv' (h _)
    unfold seqIndex?
    have : (#[Value.int t tt, .int bt tbt] : Array Value).size = 2 := rfl
    rw [this]
    rcases (show j = 0 ∨ j = 1 by omega) with e | e <;> (subst e; rfl)
  unfold lamBody
  refine wpAny_BinOp (sub 0 (.int t tt) hns hb (by decide) rfl fun tk1 => ?_)
  refine wpAny_BinOp (wpAny_Name (wpAny_loadName_free hk hm hcl (s := { s with toks := tk1 }) hc ?_ mc) md)
  refine sub (s := { s with toks := tk1 }) 1 (.int bt tbt) hns hb (by decide) rfl fun tk2 => ?_
  have hbt : bt ≠ 0 := by have := hko.1.1; omega
  refine PyProof.Rows.floordiv_int hbt ?_ (.inl (PyProof.noPylong_of_log2 hko.1.2))
  have ed : M.fdiv bt = M / bt := Int.fdiv_eq_ediv_of_nonneg _ (Int.le_of_lt hko.1.1)
  rw [ed]
  exact PyProof.Rows.mul_int (h _ _) (mulOk_ok hko.2)
/-- a call of the lambda: y[0] * (m // y[1]) -/
theorem key_call {sc scope : Scope} {y m : Str} {params : Arguments} {p1 p2 p3 p4 p5 p6 p7 p8 p9 : Pos} {k0 k1 : Nat} {q : Str} {cl : List (Str × Addr)} {pm ctv : Value} {f c' c b : Addr} {M t bt : Int} {tM tt tbt : Tok} (L : LamOk sc scope y m) (hroom : A.depth < recursionLimit)
    (hbind : ∀ v, bindArgs (PySem.W.kla_fn "<lambda>" q params (lamBody y m p1 p2 p3 p4 p5 p6 p7 p8 p9 k0 k1) scope cl pm (.ref c') ctv) ⟨[v], []⟩ = pure [(y, v)])
    (hf : s.heap.get? f = some (PySem.W.kla_obj "<lambda>" q params (lamBody y m p1 p2 p3 p4 p5 p6 p7 p8 p9 k0 k1) scope cl pm c' ctv)) (hcd : s.heap.CodeRec (.ref c') q) (hlim : s.heap.NoLimit)
    (hcl : cl.lookup m = some c) (hc : s.heap.IsCell c (some (.int M tM))) (hb : IsTup s.heap b #[.int t tt, .int bt tbt]) (hko : divOk bt ∧ mulOk t (M / bt)) :
    wpAny (model prog w) A (call (.ref f) [.ref b]) (PySem.W.KeyPure (.int (t * (M / bt))) s) (fun _ _ => False) s := by
  refine wpAny_call (codeAny_mono (R := fun r s' => match r with | .ok (.ret v) => PySem.W.KeyPure (.int (t * (M / bt))) s v s' | _ => False) (PySem.W.kla_callFunE hroom hf rfl L.co L.gen rfl hcd ?_) fun r s' h => ?_)
  · rw [hbind]
    refine wpAny_pure (wpAny_newFunctionEnv (fun z hz => ?_) (fun z hz => ?_) (fun h₁ hns hsb => ⟨hlim.fresh _ hsb, ?_⟩) L.kind)
    · rcases L.all z hz with e | e <;> (rw [e]; simp)
    · simp only [List.mem_singleton] at hz
      rw [hz]; exact L.loc
    · have kp : ∀ b o, s.heap.get? b = some o → h₁.get? b = some o := fun b o e => hsb.extBut b o (Nat.ne_of_lt (Heap.lt_size e)) (Heap.get?_push_of_some _ e)
      refine PySem.W.kla_codeExpr ?_
      refine key_body (s := { s with heap := h₁, toks := _ }) (c := c) (b := b) (tM := tM) (tt := tt) (tbt := tbt) L.yd L.md L.mc L.kind L.loc L.fre hcl hns ?_ (let ⟨o, ho, hd⟩ := hc; ⟨o, kp _ _ ho, hd⟩) (hb.keeps kp) hko fun u tk => ?_
      · simp
      · exact ⟨h₁, tk, rfl, kp, .int _ _⟩
  · cases r with
    | error e => exact h.elim
    | ok fl =>
      cases fl with
      | ret u => exact h
      | next => exact h.elim
      | brk => exact h.elim
      | cont => exact h.elim
end

section
variable {X : Cx} {pins : List (Addr × Obj)} {σ : L2.St} {H : Hp} {s : Shared}
/-- the lambda is made: what is tracked behind it, told whole -/
theorem lam_mk {c P : Addr} {params : Arguments} {body : Expr} {scope : Scope} {pos : Pos} {E : Value → Shared → Prop} {Q : Value → Shared → Prop} (I : Inv X pins σ H s) (TB : LamX.TabB X.base X.mg c P) (hcode : X.env.code = .ref c)
    (hT : TabsIn [(P, X.env.qual ++ "<lambda>")] H) (hdef : defaultsOf params X.env = ([], [])) (hfree : ∀ y ∈ scope.names, y.2 = .free → ∃ c, X.env.cells.lookup y.1 = some c)
    (h : ∀ (f c' : Addr) (pm ctv : Value) (H1 : Hp) (s' : Shared), Inv X pins σ H1 s' → LamX.ExtN H H1 → TabsIn [(P, X.env.qual ++ "<lambda>")] H1 → (∀ b, H b ≠ none → H1 b ≠ none) →
      s'.heap.get? f = some (PySem.W.kla_obj "<lambda>" (X.env.qual ++ "<lambda>") params body scope (cloFrom X.env.cells scope.names []) pm c' ctv) → H1 c' = some (LamX.CodeO c' (X.env.qual ++ "<lambda>")) → Q (.ref f) s') :
    wpAny (model X.prog X.w) X.A (PySem.eval (.Lambda params body scope pos) X.env) Q E s := by
  obtain ⟨ps, hP, ht, ha⟩ := hT.tabs _ List.mem_cons_self
  refine PySem.W.kla_eval hdef ?_
  have bP : s.heap.BuiltinsAt X.mg P := TB.bm.keeps I.bk
  have hP' : s.heap.get? P = some { cls := .none, data := .fields ps } := I.hok P _ hP
  cases hc : codeAmong pos ps.toList with
  | some cv =>
    obtain ⟨c', e, hco⟩ := ha pos cv hc
    subst e
    refine PySem.W.kla_makeFunctionHit (mg := X.mg) (c := c) (P := P) (ps := ps) (closure_ok hfree) I.ok.glob (I.mod.glob.keeps I.bk) hcode (TB.code.keeps I.bk) hP' ht hc bP fun ctv h' tk hx hsz => ?_
    exact h h'.objs.size c' ((X.mg "__name__").getD .none) ctv H _ (I.kept fun b o e => Heap.get?_push_of_some _ (hx b o e)) (LamX.ExtN.refl H) hT (fun _ h => h) (Heap.get?_push_size _ rfl) hco
  | none =>
    refine PySem.W.kla_makeFunction (mg := X.mg) (c := c) (P := P) (ps := ps) (closure_ok hfree) I.ok.glob (I.mod.glob.keeps I.bk) hcode (TB.code.keeps I.bk) hP' ht hc TB.gP bP fun c' ctv h' tk hx hge hlt hrec htb => ?_
    obtain ⟨c2, oc, vs, t, e2, hoc, hd, hv⟩ := hrec
    cases e2
    have nC : H c' = none := I.hok.fresh hge
    have nPc : P ≠ c' := ne_of_none hP nC
    have I1 := LamX.inv_table (t' := tk) (q := X.env.qual ++ "<lambda>") (more := #[rawInt pos.line, rawInt pos.col, .ref c']) (h' := h'.push (PySem.W.kla_obj "<lambda>" (X.env.qual ++ "<lambda>") params body scope (cloFrom X.env.cells scope.names []) ((X.mg "__name__").getD .none) c' ctv)) I hP
      (fun b o hb e => Heap.get?_push_of_some _ (hx b o hb e)) (Heap.get?_push_of_some _ htb) hge ⟨oc, vs, t, Heap.get?_push_of_some _ hoc, hd, hv⟩
    have hE : LamX.ExtN H (upd (upd H P (.tbl (ps ++ #[rawInt pos.line, rawInt pos.col, .ref c']))) c' (LamX.CodeO c' (X.env.qual ++ "<lambda>"))) := fun b o e n => by
      rw [upd_ne (ne_of_none e nC), upd_ne (fun z => n ps (Option.some.inj (e.symm.trans (by rw [z]; exact hP))))]
      exact e
    have eL : (ps ++ #[rawInt pos.line, rawInt pos.col, .ref c']).toList = ps.toList ++ [rawInt pos.line, rawInt pos.col, .ref c'] := by simp
    refine h h'.objs.size c' ((X.mg "__name__").getD .none) ctv _ _ I1 hE ⟨fun p hp => ?_⟩ (fun b hb => ?_) (Heap.get?_push_size _ rfl) upd_same
    · rw [List.mem_singleton] at hp
      rw [hp]
      refine ⟨_, by rw [upd_ne nPc, upd_same], by rw [eL]; exact PySem.TriplesOk_snoc _ _ _ _ ht, fun p' cv hcv => ?_⟩
      rw [eL] at hcv
      rcases LamX.among_app _ ht hcv with z | z
      · obtain ⟨c0, e1, e2⟩ := ha p' cv z
        exact ⟨c0, e1, hE _ _ e2 LamX.codeO_ne⟩
      · exact ⟨c', z, upd_same⟩
    · by_cases z : b = c'
      · rw [z, upd_same]; simp
      · rw [upd_ne z]
        by_cases z2 : b = P
        · rw [z2, upd_same]; simp
        · rwa [upd_ne z2]
end
/-- only a table has grown -/
theorem Post.grown {K F σ env U} {H H' : Hp} (g : Gd K F σ env U H) (e : LamX.ExtN H H') (t : TabsT H') (live : ∀ b, H b ≠ none → H' b ≠ none) : Post K F σ env U H σ env U H' := by
  have tr : Tr (Own σ env) U H U H' := ⟨fun b o h _ n => e b o h n, fun _ => t, live, fun b h => .inl h, fun b h _ => h⟩
  refine ⟨tr, ⟨g.len, fun i d h => ?_, fun i l d h => ?_, g.inj, fun b h => live b (g.live b h), fun b h => g.frs b (Classical.byContradiction fun z => live b z h), t⟩, fun b h => .inl h⟩
  · obtain ⟨v, e1, r⟩ := g.sh i d h
    exact ⟨v, e1, r.mono tr g.hO⟩
  · obtain ⟨a, e1, u, o, f⟩ := g.ow i l d h
    refine ⟨a, e1, u, ?_, f⟩
    cases d <;> first | exact o.elim | (obtain ⟨vs, e2, r⟩ := o; exact ⟨vs, e _ _ e2 nt_lst, r.mono tr g.hO⟩)
/-- a pair that is sorted -/
def PairR (K : PySem.W.Frag) (U : Addr → Prop) (H : Hp) (h : Heap) (M : Int) (v : Value) (d : D) : Prop := ∃ (b : Addr) (t bt : Int) (tt tbt : Tok), v = .ref b ∧ d = .tup [.int t, .int bt] ∧ Rep K U H (.ref b) d ∧ IsTup h b #[.int t tt, .int bt tbt] ∧ divOk bt ∧ mulOk t (M / bt)
theorem keyN_some {M : Int} {d : D} (h : (keyN M d).isSome = true) : ∃ t b, d = .tup [.int t, .int b] ∧ divOk b ∧ mulOk t (M / b) ∧ keyN M d = some (t * (M / b)) := by
  unfold keyN at h ⊢
  split at h
  · split at h
    · rename_i t b hk
      exact ⟨t, b, rfl, hk.1, hk.2, by rw [if_pos hk]⟩
    · simp at h
  · simp at h
section
variable {X : Cx} {B : Sx} {L : Lib} {pins : List (Addr × Obj)} {σ : L2.St} {H : Hp} {s : Shared} {U : Addr → Prop}
theorem pairs_of {M : Int} (hK : X.K = B.K) (I : Inv X pins σ H s) : ∀ {vs : List V} {ds : List D} {us : List Value}, RepAll B.K U H vs ds → Vals vs us → (ds.all fun d => (keyN M d).isSome) = true → PySem.W.EachIs (PairR B.K U H s.heap M) us ds
  | [], _, _, .nil, .nil, _ => .nil
  | v :: vs, _, _, .cons (d := d) (ds := ds) r t, .cons rv t2, h => by
    simp only [List.all_cons, Bool.and_eq_true] at h
    refine .cons ?_ (pairs_of hK I t t2 h.2)
    obtain ⟨a, b, rfl, h1, h2, _⟩ := keyN_some h.1
    have r0 := r
    obtain ⟨ad, ws, rfl, h4, h5⟩ := (Pk.sh r).tup
    have ew := reps_ints (bs := [a, b]) h5 rfl
    subst ew
    cases rv
    obtain ⟨its, rw', ht, hz⟩ := I.tuple (hK ▸ h4)
    obtain ⟨tt, tbt, rfl⟩ := Vals.int2 rw'
    exact ⟨ad, a, b, tt, tbt, rfl, rfl, r0, ht, h1, h2⟩
theorem pairs_reps {h : Heap} {M : Int} : ∀ {us : List Value} {ds : List D}, PySem.W.EachIs (PairR B.K U H h M) us ds → ∃ vs, Vals vs us ∧ RepAll B.K U H vs ds
  | _, _, .nil => ⟨[], .nil, .nil⟩
  | _, _, .cons h t => by
    obtain ⟨vs, r1, r2⟩ := pairs_reps t
    obtain ⟨b, _, _, _, _, rfl, _, r, _⟩ := h
    exact ⟨.ref b :: vs, .cons rfl r1, .cons r r2⟩
theorem sortN_eq (M : Int) (xs : List D) : xs.mergeSort (PySem.W.dataLe false fun d => PyData.int ((keyN M d).getD 0)) = sortN M xs := by
  rw [PySem.W.dataLe_int]
  rfl
/-- sorted(xs, key=lambda y: y[0] * (m // y[1])) -/
theorem snd_sortk {a : Expr} {a' : E} {y m : Str} {mi kd : Nat} {params : Arguments} {p1 p2 p3 p4 p5 p6 p7 p8 p9 : Pos} {k0 k1 : Nat} {lscope : Scope} {p pos lpos kpos : Pos} {c P : Addr} (hK : X.K = B.K) (hu : X.A.units + 20 < cLine) (hroom : X.A.depth < recursionLimit)
    (hg : Gl X "sorted") (hm : X.mg "sorted" = none) (ha : PE X a (rdA B L a')) (hs : starEach (a :: []) X.env = (false, PySem.eval a X.env) :: starEach [] X.env) (hN : X.N[mi]? = some m) (LO : LamOk X.env.scope lscope y m)
    (hbind : ∀ (q : Str) (cl : List (Str × Addr)) (pm cv ctv v : Value), bindArgs (PySem.W.kla_fn "<lambda>" q params (lamBody y m p1 p2 p3 p4 p5 p6 p7 p8 p9 k0 k1) lscope cl pm cv ctv) ⟨[v], []⟩ = pure [(y, v)]) (hdef : defaultsOf params X.env = ([], []))
    (TB : LamX.TabB X.base X.mg c P) (hcode : X.env.code = .ref c) (hT : HasT.T = [(P, X.env.qual ++ "<lambda>")]) :
    PE X (.Call (.Name "sorted" p) [a] [⟨some "key", .Lambda params (lamBody y m p1 p2 p3 p4 p5 p6 p7 p8 p9 k0 k1) lscope lpos, kpos⟩] pos) (rdE B L (.sortk a' mi)) := by
  refine ⟨fun pins s σ H Q I ⟨env, U, g, h⟩ => ?_⟩
  simp only [eval] at h
  have key : rdA B L a' σ H fun v H1 => ∃ env1 U1 d k, Gd B.K B.F σ env1 U1 H1 ∧ Pk B.K U1 H1 v d ∧ env1[mi]? = some (.sh (.int k)) ∧ Kout B σ env1 U1 H1 (sortkD k d) Q := by
    refine ⟨env, U, g, (Wp.bind g h).imp fun x env1 U1 H1 _ p1 h1 v ok1 => ?_⟩
    cases e0 : env1[mi]? with
    | none => rw [e0] at h1; exact h1.elim
    | some sl =>
      rw [e0] at h1
      rcases sl with _ | d0 | ⟨_, _⟩ <;> try (exact h1.elim)
      cases d0 <;> try (exact h1.elim)
      rename_i k
      simp only at h1
      obtain ⟨r, e, h3⟩ := h1.pure
      cases e1 : x.peek env1 with
      | none => rw [e1] at e; cases e
      | some d =>
        rw [e1] at e
        exact ⟨env1, U1, d, k, p1.good, p1.good.peek ok1 e1, e0, r.1, r.2, e, fun v U' H' p3 vr => h3 U' H' p3 v (vr.start p1.back)⟩
  refine wpAny_Call_Name_kw (ld_blt I hg hm PyProof.Rows.boot_sorted ?_)
  refine PyProof.Rows.callWith_builtin_kwB (by rw [hs]; rfl) rfl ?_
  refine PyProof.Rows.evalArgs_kw2 rfl ?_ hs
  refine PyProof.Rows.args_cons (thn (ha.run pins s σ H _ I key) fun u s1 ⟨v, H1, I1, r1, env1, U1, d, k, g1, pk, ek, r, fr, er, kq⟩ => PyProof.Rows.args_nil ?_) hs
  have hT1 : TabsIn [(P, X.env.qual ++ "<lambda>")] H1 := hT ▸ g1.tab
  have hvis : ∀ z ∈ lscope.names, z.2 = .free → ∃ c, X.env.cells.lookup z.1 = some c := fun z hz e => by
    rcases LO.all z hz with q | q
    · rw [q] at e; cases e
    · rw [q]; exact I1.ok.has _ (.inl LO.cel)
  refine PyProof.Rows.kwAll_cons (lam_mk I1 TB hcode hT1 hdef hvis fun f c' pm ctv H2 s2 I2 eN T2 lv hf hco => PyProof.Rows.kwAll_nil ?_)
  have T2' : TabsT H2 := by
    show TabsIn HasT.T H2
    rw [hT]; exact T2
  have pg := Post.grown g1 eN T2' lv
  have g2 := pg.good
  cases d <;> simp only [sortkD] at er <;> try (cases er; done)
  rename_i xs
  split at er
  case isFalse => cases er
  rename_i hx
  cases er
  have pk2 : Pk B.K U1 H2 v (.lst xs) := by
    cases pk with
    | sh r => exact .sh (pg.rep g1 r)
    | ow r =>
      obtain ⟨ws, e2, r2⟩ := r
      exact .ow ⟨ws, eN _ _ e2 nt_lst, pg.reps g1 r2⟩
  obtain ⟨l, vs, rfl, h4, h5⟩ := pk2.lst
  obtain rfl : u = Value.ref l := r1
  obtain ⟨its, rv, ht, _⟩ := I2.list (.inl h4)
  have ei := pairs_of (M := k) hK I2 h5 rv hx.1
  -- the captured name
  obtain ⟨mm, hns, hloc⟩ := I2.loc
  obtain ⟨vk, e5, rk⟩ := g2.sh mi _ ek
  cases rk
  obtain ⟨uk, rku, lk⟩ := hloc mi m _ hN e5 (.inr (.inl LO.cel))
  obtain ⟨tk, rfl⟩ := rku
  have hcell : ∃ cc, X.env.cells.lookup m = some cc ∧ s2.heap.IsCell cc (some (.int k tk)) := by
    rcases lk with ⟨e6, _⟩ | ⟨_, cc, e6, e7⟩
    · have e6 : X.env.scope.names.lookup m = some .local := e6
      rw [LO.cel] at e6; cases e6
    · exact ⟨cc, e6, e7⟩
  obtain ⟨cc, hcc, hcv⟩ := hcell
  have hclo : (cloFrom X.env.cells lscope.names []).lookup m = some cc := by
    have hy : (m, NameKind.free) ∈ lscope.names := PySem.mem_of_lookup LO.fre
    obtain ⟨c0, e0⟩ := mem_lookup (cloFrom_has (cells := X.env.cells) (acc := []) hy)
    rcases cloFrom_mem (PySem.mem_of_lookup e0) with hm | ⟨h1, h2⟩
    · cases hm
    · have e2 : c0 = cc := by
        rw [h2, hcc] <;> rfl
      rw [e0, e2]
  obtain ⟨⟨oc, vsc, tc, hoc, hdc, hvc⟩, _, _⟩ := (show ObjOk X.prog X.w H2 s2.heap c' (LamX.CodeO c' (X.env.qual ++ "<lambda>")) from I2.hok c' _ hco)
  refine PySem.W.sorted_key_data (b := false) (bs := xs) (R := PairR B.K U1 H2 s2.heap k) (fun d => PyData.int ((keyN k d).getD 0)) ht.isList ei (PySem.W.AllAlike.of fun _ _ => by simp [PySem.W.alike]) (PySem.W.Sortable.others fun _ => ⟨fun z => (by cases z), fun _ z => (by cases z)⟩)
    (Nat.le_trans hx.2 line100) (fun x _ => by simp only [PyData.depth]; omega) (PyProof.Rows.ksk_s1 _ _) (fun _ => PyProof.Rows.ksk_l1 _ _) (fun _ => PyProof.Rows.ksk_t1 _ _) (fun v d hR _ hh tkk kp => ?_) fun out cn h' tkk kp hnone hD hlen eo => ?_
  · obtain ⟨b, t, bt, tt, tbt, rfl, rfl, _, hb, hd1, hd2⟩ := hR
    have ek : (keyN k (.tup [.int t, .int bt])).getD 0 = t * (k / bt) := by simp only [keyN]; rw [if_pos ⟨hd1, hd2⟩]; rfl
    rw [ek]
    exact key_call (s := { s2 with heap := hh, toks := tkk }) (c := cc) (tM := tk) (tt := tt) (tbt := tbt) LO (by show X.A.in1.in1.depth < _; exact hroom) (fun v => hbind _ _ _ _ _ v) (kp _ _ hf) ⟨c', oc, vsc, tc, rfl, kp _ _ hoc, hdc, hvc⟩ (I2.nolimit.keeps kp) hclo (let ⟨o, ho, hd⟩ := hcv; ⟨o, kp _ _ ho, hd⟩) (hb.keeps kp) ⟨hd1, hd2⟩
  · rw [sortN_eq] at eo
    obtain ⟨ws, rvo, rpo⟩ := pairs_reps eo
    have hz : ws.length ≤ sizeLine := by
      rw [Paired.length rvo, hlen]
      exact Nat.le_trans hx.2 line100
    have hn : H2 (s2.heap.objs.size + 1) = none := I2.hok.fresh (Nat.le_succ _)
    have J : Inv X pins σ (upd H2 (s2.heap.objs.size + 1) (.lst ws)) { s2 with heap := h', toks := tkk } :=
      I2.laid (t' := tkk) kp (Nat.le_succ _) ⟨hz, out, cn, rvo, hD⟩
    obtain ⟨p3, vr⟩ := new_lst g2 hn rpo
    exact ⟨.ref (s2.heap.objs.size + 1), _, J, rfl, kq _ _ _ (pg.trans g1 p3) (vr.start fun b e => Classical.byContradiction fun z => pg.tr.live b z e)⟩
end
end Pi

set_option Elab.async false
set_option linter.all false
set_option maxRecDepth 100000
set_option maxHeartbeats 4000000
/-! PiG: isinstance, calls of the text's defs. -/
namespace Pi
open PySem PySem.Spec PyProof.Rows L2
variable [HasT]

/-! ### isinstance -/
def D.tyn : D → String
  | .non => "NoneType" | .bl _ => "bool" | .int _ => "int" | .str _ => "str" | .tup _ => "tuple" | .lst _ => "list"
def Ty.n : Ty → String
  | .int => "int" | .bool => "bool" | .str => "str" | .tuple => "tuple" | .list => "list"
theorem kit_table : ∀ a ∈ ["NoneType", "bool", "int", "str", "tuple", "list"], ∀ t ∈ [Ty.int, .bool, .str, .tuple, .list],
    kitB a t.n = some ((a == t.n) || (a == "bool" && t.n == "int")) := by decide +kernel
theorem kit_D (K : PySem.W.Frag) (d : D) (t : Ty) : PySem.W.kitOne K (.type d.tyn) (.type t.n) = some (tyD d t) := by
  refine kit_ty ?_
  have h := kit_table d.tyn (by cases d <;> simp [D.tyn]) t (by cases t <;> simp)
  rw [h]
  cases d <;> cases t <;> rfl
theorem kit_any (K : PySem.W.Frag) (d : D) : ∀ ts : List Ty, PySem.W.kitAny K (.type d.tyn) (ts.map fun t => Value.type t.n) = some (ts.any (tyD d))
  | [] => rfl
  | t :: ts => by
    rw [List.map_cons, List.any_cons]
    refine kitAny_cons (kit_D K d t) (fun h => ?_) (fun h => ?_)
    · rw [h, Bool.false_or]; exact kit_any K d ts
    · rw [h, Bool.true_or]
theorem Pk.ty {K : PySem.W.Frag} {U : Addr → Prop} {H : Hp} {v : V} {d : D} (h : Pk K U H v d) : TyX K H v (.type d.tyn) := by
  cases d with
  | non => rw [h.non]; exact .base .non
  | bl b => rw [h.bl]; exact .base (.bl b)
  | int i => rw [h.int]; exact .base (.int i)
  | str x => rw [h.str]; exact .base (.str x)
  | tup ds =>
    obtain ⟨a, vs, rfl, h1, _⟩ := h.tup
    rcases h1 with (h1 | ⟨o, h1⟩) | ⟨o, its, n, h1, h2, _⟩
    · exact .base (.tup h1)
    · exact .fTuple h1
    · exact .kTuple h1 h2
  | lst ds =>
    obtain ⟨a, vs, rfl, h1, _⟩ := h.lst
    rcases h1 with h1 | ⟨o, h1⟩
    · exact .base (.lst h1)
    · exact .base (.frz h1)
section
variable {X : Cx} {B : Sx} {L : Lib} {a b c : Expr} {a' b' c' : E} {pos p p2 p3 : Pos}
theorem snd_isin1 {t : Ty} {tn : Str} (hK : X.K = B.K) (hg : Gl X "isinstance") (hm : X.mg "isinstance" = none) (hg2 : Gl X tn) (hm2 : X.mg tn = none) (hv : bootBuiltins tn = some (.type t.n)) (hn : tn ≠ "__name__") (hd : (tn == ("__debug__" : Str)) = false)
    (ha : PE X a (rdA B L a')) (hs : starEach (a :: [.Name tn p2]) X.env = (false, PySem.eval a X.env) :: starEach [.Name tn p2] X.env) :
    PE X (.Call (.Name "isinstance" p) [a, .Name tn p2] [] pos) (rdE B L (.isin a' [t])) := by
  refine (pe_callB call_isi hg hm boot_isinstance (pa_cons ha (pa_cons (pe_bltn (v := .ty t.n) hg2 hm2 hv rfl hn hd) pa_nil) hs) (by decide) (by decide) hs rfl).imp fun σ H Q h => ?_
  have q := rd_1 (f := fun d => some (.bl ([t].any (tyD d)), false)) (fun env => by
    simp only [eval]
    congr 1
    funext x env1
    cases x.peek env1 <;> rfl) h
  obtain ⟨env, U, g, w⟩ := q
  refine ⟨env, U, g, w.imp fun x env1 U1 H1 _ p1 h1 v ok1 => ?_⟩
  obtain ⟨env2, U2, d, g2, pk, k⟩ := h1 v ok1
  refine ⟨v, .ty t.n, .type d.tyn, .type t.n, tyD d t, rfl, .ty _, hK ▸ pk.ty, kit_D _ d t, ?_⟩
  exact k.sc g2 (by simp) (.bl _)
theorem pa_tys : ∀ {es : List Expr} {ts : List Ty}, Paired (fun (e : Expr) (t : Ty) => ∃ tn p, e = .Name tn p ∧ Gl X tn ∧ X.mg tn = none ∧ bootBuiltins tn = some (.type t.n) ∧ tn ≠ "__name__" ∧ (tn == ("__debug__" : Str)) = false) es ts →
    PA X es (fun _ H Q => Q (ts.map fun t => V.ty t.n) H)
  | _, _, .nil => pa_nil
  | _, _, .cons (b := t) h r => by
    obtain ⟨tn, p, rfl, h1, h2, h3, h4, h5⟩ := h
    exact (pa_cons (pe_bltn (v := .ty t.n) h1 h2 h3 rfl h4 h5) (pa_tys r) rfl).imp fun σ H Q q => q
theorem vals_tys : ∀ ts : List Ty, Paired ClsV (ts.map fun t => V.ty t.n) (ts.map fun t => Value.type t.n)
  | [] => .nil
  | t :: ts => .cons (.ty _) (vals_tys ts)
theorem snd_isinT {ts : List Ty} {tes : List Expr} {k : Nat} (hK : X.K = B.K) (hg : Gl X "isinstance") (hm : X.mg "isinstance" = none)
    (ht : Paired (fun (e : Expr) (t : Ty) => ∃ tn p, e = .Name tn p ∧ Gl X tn ∧ X.mg tn = none ∧ bootBuiltins tn = some (.type t.n) ∧ tn ≠ "__name__" ∧ (tn == ("__debug__" : Str)) = false) tes ts) (hz : ts.length ≤ 1000)
    (ha : PE X a (rdA B L a')) (hs : starEach (a :: [.Tuple tes k p2]) X.env = (false, PySem.eval a X.env) :: starEach [.Tuple tes k p2] X.env) :
    PE X (.Call (.Name "isinstance" p) [a, .Tuple tes k p2] [] pos) (rdE B L (.isin a' ts)) := by
  refine (pe_callB call_isiT hg hm boot_isinstance (pa_cons ha (pa_cons (pe_tup (pa_tys ht)) pa_nil) hs) (by decide) (by decide) hs rfl).imp fun σ H Q h => ?_
  have q := rd_1 (f := fun d => some (.bl (ts.any (tyD d)), false)) (fun env => by
    simp only [eval]
    congr 1
    funext x env1
    cases x.peek env1 <;> rfl) h
  obtain ⟨env, U, g, w⟩ := q
  refine ⟨env, U, g, w.imp fun x env1 U1 H1 _ p1 h1 v ok1 => ⟨?_, fun tp hp => ?_⟩⟩
  · rw [List.length_map]; exact Nat.le_trans hz (Nat.le_trans (by decide) line100)
  obtain ⟨env2, U2, d, g2, pk, r, fr, e, q⟩ := h1 v ok1
  cases e
  obtain ⟨p2, kk⟩ := Post.new (o := .tup (ts.map fun t => V.ty t.n)) g2 hp
  have pk' : Pk B.K U2 (upd H1 tp (.tup (ts.map fun t => V.ty t.n))) v d := by
    cases pk with
    | sh r => exact .sh (p2.rep g2 r)
    | ow r => cases d <;> first | exact r.elim | (obtain ⟨ws, e, r2⟩ := r; exact .ow ⟨ws, kk _ _ e, p2.reps g2 r2⟩)
  exact ⟨v, tp, _, .type d.tyn, _, ts.any (tyD d), rfl, upd_same, vals_tys ts, hK ▸ pk'.ty, kit_any _ d ts, q _ U2 _ p2 (.bl _)⟩
end

/-! ### calls -/
abbrev sgOf (vs : List V) : Sg := vs.map some
/-- the arguments as a def finds them -/
structure ArgsOk (K : PySem.W.Frag) (U : Addr → Prop) (H : Hp) (vs : List V) (as : List Sl) : Prop where
  good : Gd K (fun _ => True) (sgOf vs) as U H
  no : ∀ (i : Nat), as[i]? ≠ some .no
  fl : ∀ (i : Nat) (l : Bool) (d : D), as[i]? = some (.ow l d) → l = false
structure CPost (K : PySem.W.Frag) (U : Addr → Prop) (H : Hp) (vs : List V) (as : List Sl) (ps : List Sl) (U' : Addr → Prop) (H' : Hp) : Prop where
  tr : Tr (Own (sgOf vs) as) U H U' H'
  live : ∀ b, U' b → H' b ≠ none
  ow : ∀ (i : Nat) (l l' : Bool) (d d' : D), as[i]? = some (.ow l d) → ps[i]? = some (.ow l' d') → ∃ a, vs[i]? = some (.ref a) ∧ U' a ∧ OwnRep K U' H' a d'
  sh : ∀ (i : Nat) (l : Bool) (d d' : D), as[i]? = some (.ow l d) → ps[i]? = some (.sh d') → ∃ v, vs[i]? = some v ∧ Rep K U' H' v d'
  len : ps.length = as.length
def CVal (K : PySem.W.Frag) (vs : List V) (as : List Sl) (U' : Addr → Prop) (H' H : Hp) (v : V) (d : D) : Bool → Prop
  | false => Rep K U' H' v d
  | true => ∃ a, v = .ref a ∧ U' a ∧ OwnRep K U' H' a d ∧ H a = none
abbrev XRt := Exc → Value → Option Addr → (Addr → Prop) → Hp → Prop
def spF (K : PySem.W.Frag) (XR : XRt) (np : Nat) (C : List Sl → CRes) : Sp := fun vs H Q E => ∃ as U, vs.length = np ∧ as.length = np ∧ ArgsOk K U H vs as ∧
  match C as with
  | .ok d fr ps => ∀ v U' H', CPost K U H vs as ps U' H' → CVal K vs as U' H' H v d fr → Q v H'
  | .ex x => ∀ c dx U' H', Tr (Own (sgOf vs) as) U H U' H' → (∀ b, U' b → H' b ≠ none) → XR x c dx U' H' → E c dx H'
  | .bad => False

theorem sg_get {vs : List V} {i : Nat} {v : V} : (sgOf vs)[i]? = some (some v) ↔ vs[i]? = some v := by
  rw [List.getElem?_map]
  cases vs[i]? <;> simp

/-- what the taking of arguments does: the rest of the frame, the arguments -/
structure Took (K : PySem.W.Frag) (F : Addr → Prop) (σ : Sg) (env : Env) (U : Addr → Prop) (H : Hp) (vs : List V) (as : List Sl) (t : List (Option (Nat × Bool))) (env' : Env) (U' : Addr → Prop) : Prop where
  len : vs.length = as.length
  tlen : t.length = as.length
  post : Post K F σ env U H σ env' U' H
  shr : ∀ (i : Nat) (d : D), as[i]? = some (.sh d) → ∃ v, vs[i]? = some v ∧ Rep K U' H v d
  tk : ∀ (i j : Nat) (l : Bool), t[i]? = some (some (j, l)) → ∃ a d, vs[i]? = some (.ref a) ∧ as[i]? = some (.ow false d) ∧ σ[j]? = some (some (.ref a)) ∧ U' a ∧ OwnRep K U' H a d ∧ Own σ env a ∧ ¬ Own σ env' a ∧ (l = true → F a) ∧ j < env'.length
  nt : ∀ (i : Nat) (l : Bool) (d : D), as[i]? = some (.ow l d) → ∃ j l', t[i]? = some (some (j, l'))
  no : ∀ (i : Nat), as[i]? ≠ some .no
  fl : ∀ (i : Nat) (l : Bool) (d : D), as[i]? = some (.ow l d) → l = false
  ap : ∀ (i j i' j' : Nat) (l l' : Bool), t[i]? = some (some (j, l)) → t[i']? = some (some (j', l')) → vs[i]? = vs[i']? → i = i'
theorem Own.wo_post {K F σ env U H σ1 env1 U1 H1} (p : Post K F σ env U H σ1 env1 U1 H1) (g : Gd K F σ env U H) {a : Addr} (h : ¬ Own σ env a) (hu : U a) : ¬ Own σ1 env1 a := fun z => by
  rcases p.own a z with y | y
  · exact h y
  · exact g.live a hu y
/-- a slot's list is handed out -/
theorem Post.take {K F σ env U H} {i : Nat} {l : Bool} {d : D} (g : Gd K F σ env U H) (e : env[i]? = some (.ow l d)) : ∃ a, σ[i]? = some (some (.ref a)) ∧ Post K F σ env U H σ (env.set i .no) U H ∧ U a ∧ OwnRep K U H a d ∧ Own σ env a ∧ ¬ Own σ (env.set i .no) a ∧ (l = true → F a) := by
  obtain ⟨a, e1, u, o, f⟩ := g.ow i l d e
  have ha : Own σ env a := ⟨i, l, d, e, e1⟩
  refine ⟨a, e1, ⟨Tr.refl _ _ _, ⟨by simpa using g.len, fun j d' h => ?_, fun j l' d' h => ?_, fun j k l1 l2 d1 d2 b h1 h2 s1 s2 => ?_, g.live, g.frs, g.tab⟩, fun b h => .inl (own_set (by simp) h)⟩, u, o, ha, fun ⟨j, l', d', h, s⟩ => ?_, f⟩
  · rcases get_set_ow h with ⟨_, q⟩ | ⟨_, q⟩
    · cases q
    · exact g.sh j d' q
  · rcases get_set_ow h with ⟨_, q⟩ | ⟨_, q⟩
    · cases q
    · exact g.ow j l' d' q
  · rcases get_set_ow h1 with ⟨_, q⟩ | ⟨_, q1⟩
    · cases q
    · rcases get_set_ow h2 with ⟨_, q⟩ | ⟨_, q2⟩
      · cases q
      · exact g.inj j k _ _ _ _ b q1 q2 s1 s2
  · rcases get_set_ow h with ⟨_, q⟩ | ⟨n, q⟩
    · cases q
    · exact n (g.inj i j _ _ _ _ a e q e1 s)
theorem aoks_cons {K σ U H v vs x xs} (h : AOks K σ U H (v :: vs) (x :: xs)) : AOk K σ U H v x ∧ AOks K σ U H vs xs := by cases h with | cons a b => exact ⟨a, b⟩

theorem Took.cons0 {K F σ env U H vs as t env' U'} {v : V} {s : Sl} (T : Took K F σ env U H vs as t env' U') (hs : ∀ l d, s ≠ .ow l d) (hn : s ≠ .no) (hsh : ∀ d, s = .sh d → Rep K U' H v d) : Took K F σ env U H (v :: vs) (s :: as) (none :: t) env' U' := by
  refine ⟨by simp [T.len], by simp [T.tlen], T.post, fun i d e => ?_, fun i j l e => ?_, fun i l d e => ?_, fun i e => ?_, fun i l d e => ?_, fun i j i' j' l l' e e' ev => ?_⟩
  · cases i with
    | zero => simp at e; exact ⟨v, rfl, hsh d e⟩
    | succ i => simp at e; simpa using T.shr i d e
  · cases i with
    | zero => simp at e
    | succ i => simp at e; simpa using T.tk i j l e
  · cases i with
    | zero => simp at e; exact absurd e (hs l d)
    | succ i => simp at e; simpa using T.nt i l d e
  · cases i with
    | zero => simp at e; exact hn e
    | succ i => simp at e; exact T.no i e
  · cases i with
    | zero => simp at e; exact absurd e (hs l d)
    | succ i => simp at e; exact T.fl i l d e
  · cases i with
    | zero => simp at e
    | succ i =>
      cases i' with
      | zero => simp at e'
      | succ i' => simp at e e' ev; rw [T.ap i j i' j' l l' e e' ev]

theorem takes_ok {K F σ} : ∀ {xs : List (Arg × Bool)} {vs : List V} {env env' : Env} {U : Addr → Prop} {H : Hp} {as : List Sl} {t : List (Option (Nat × Bool))},
    Gd K F σ env U H → AOks K σ U H vs (xs.map (·.1)) → takes xs env = some (as, t, env') → ∃ U', Took K F σ env U H vs as t env' U'
  | [], vs, env, env', U, H, as, t, g, h, e => by
    cases h
    simp only [takes] at e
    cases e
    exact ⟨U, rfl, rfl, .refl g, fun i d e => by simp at e, fun i j l e => by simp at e, fun i l d e => by simp at e, fun i e => by simp at e, fun i l d e => by simp at e, fun i j i' j' l l' e => by simp at e⟩
  | (.val d, b) :: r, [], env, env', U, H, as, t, g, h, e => by cases h
  | (.val d, b) :: r, v :: vs, env, env', U, H, as, t, g, h, e => by
    obtain ⟨h1, h2⟩ := aoks_cons h
    simp only [takes] at e
    cases q : takes r env with
    | none => rw [q] at e; cases e
    | some z =>
      obtain ⟨as1, t1, env1⟩ := z
      rw [q] at e
      cases e
      obtain ⟨U', T⟩ := takes_ok g h2 q
      exact ⟨U', T.cons0 (by simp) (by simp) fun d' e => by cases e; exact T.post.rep g h1⟩
  | (.slot i, b) :: r, [], env, env', U, H, as, t, g, h, e => by cases h
  | (.slot i, b) :: r, v :: vs, env, env', U, H, as, t, g, h, e => by
    obtain ⟨h1, h2⟩ := aoks_cons h
    have h1 : σ[i]? = some (some v) := h1
    simp only [takes] at e
    cases hi : env[i]? with
    | none => rw [hi] at e; cases e
    | some s =>
      rw [hi] at e
      cases s with
      | no => cases e
      | sh d =>
        simp only at e
        cases q : takes r env with
        | none => rw [q] at e; cases e
        | some z =>
          obtain ⟨as1, t1, env1⟩ := z
          rw [q] at e
          cases e
          obtain ⟨U', T⟩ := takes_ok g h2 q
          obtain ⟨v', e1, r1⟩ := g.sh i d hi
          rw [h1] at e1; cases e1
          exact ⟨U', T.cons0 (by simp) (by simp) fun d' e => by cases e; exact T.post.rep g r1⟩
      | ow l d =>
        simp only at e
        cases b with
        | false =>
          rw [if_neg (by simp)] at e
          obtain ⟨a, e1, p1, r1⟩ := Post.share g hi
          rw [h1] at e1; cases e1
          cases q : takes r (env.set i (.sh d)) with
          | none => rw [q] at e; cases e
          | some z =>
            obtain ⟨as1, t1, env1⟩ := z
            rw [q] at e
            cases e
            obtain ⟨U', T⟩ := takes_ok p1.good (h2.mono g p1) q
            have r2 := T.post.rep p1.good r1
            refine ⟨U', (Took.cons0 (v := .ref a) (s := .sh d) ⟨T.len, T.tlen, p1.trans g T.post, T.shr, fun i j l e => ?_, T.nt, T.no, T.fl, T.ap⟩ (by simp) (by simp) fun d' e => by cases e; exact r2)⟩
            obtain ⟨a', d', h3, h4, h5, h6, h7, h8, h9⟩ := T.tk i j l e
            refine ⟨a', d', h3, h4, h5, h6, h7, ?_, h9⟩
            rcases p1.own a' h8 with z | z
            · exact z
            · obtain ⟨xs, q⟩ := h7.lst; rw [z] at q; cases q
        | true =>
          rw [if_pos rfl] at e
          obtain ⟨a, e1, p1, u1, o1, hown, hnot, f1⟩ := Post.take g hi
          rw [h1] at e1; cases e1
          cases q : takes r (env.set i .no) with
          | none => rw [q] at e; cases e
          | some z =>
            obtain ⟨as1, t1, env1⟩ := z
            rw [q] at e
            cases e
            obtain ⟨U', T⟩ := takes_ok p1.good (h2.mono g p1) q
            have n2 : ¬ Own σ env1 a := Own.wo_post T.post p1.good hnot u1
            have u2 : U' a := T.post.tr.res a u1 hnot
            have o2 : OwnRep K U' H a d := o1.mono T.post.tr p1.good.hO hnot
            have hil : i < env1.length := by
              have h3 := T.post.good.len
              have h4 := p1.good.len
              have : i < env.length := (List.getElem?_eq_some_iff.mp hi).1
              simp only [List.length_set] at h4
              omega
            have back : ∀ a', Own σ (env.set i .no) a' → OwnRep K U' H a' d → Own σ env a' := fun a' z _ => own_set (by simp) z
            refine ⟨U', by simp [T.len], by simp [T.tlen], p1.trans g T.post, fun k d' e => ?_, fun k j l' e => ?_, fun k l' d' e => ?_, fun k e => ?_, fun k l' d' e => ?_, fun k j k' j' l1 l2 e e' ev => ?_⟩
            · cases k with
              | zero => simp at e
              | succ k => simp at e; simpa using T.shr k d' e
            · cases k with
              | zero =>
                simp at e
                obtain ⟨rfl, rfl⟩ := e
                exact ⟨a, d, rfl, rfl, h1, u2, o2, hown, n2, f1, hil⟩
              | succ k =>
                simp at e
                obtain ⟨a', d', h3, h4, h5, h6, h7, h8, h9⟩ := T.tk k j l' e
                exact ⟨a', d', by simpa using h3, by simpa using h4, h5, h6, h7, own_set (by simp) h8, h9⟩
            · cases k with
              | zero => exact ⟨i, l, rfl⟩
              | succ k => simp at e; simpa using T.nt k l' d' e
            · cases k with
              | zero => simp at e
              | succ k => simp at e; exact T.no k e
            · cases k with
              | zero => simp at e; exact e.1
              | succ k => simp at e; exact T.fl k l' d' e
            · -- an address taken once is not owned any more
              have one : ∀ k j l', t1[k]? = some (some (j, l')) → vs[k]? ≠ some (V.ref a) := fun k j l' e z => by
                obtain ⟨a', d', h3, _, _, _, _, h8, _⟩ := T.tk k j l' e
                rw [z] at h3; cases h3
                exact hnot h8
              cases k with
              | zero =>
                cases k' with
                | zero => rfl
                | succ k' =>
                  simp at e' ev
                  exact absurd ev.symm (one k' j' l2 e')
              | succ k =>
                cases k' with
                | zero =>
                  simp at e ev
                  exact absurd ev (one k j l1 e)
                | succ k' =>
                  simp at e e' ev
                  rw [T.ap k j k' j' l1 l2 e e' ev]
end Pi

set_option Elab.async false
set_option linter.all false
set_option maxRecDepth 100000
set_option maxHeartbeats 4000000
/-! PiH: calls, behind the taking of the arguments. -/
namespace Pi
open PySem PySem.Spec PyProof.Rows L2
variable [HasT]

theorem Took.args {K F σ env U H vs as t env' U'} (T : Took K F σ env U H vs as t env' U') : ArgsOk K U' H vs as := by
  have ow : ∀ (i : Nat) (l : Bool) (d : D), as[i]? = some (.ow l d) → ∃ (a : Addr) (j : Nat) (l' : Bool), t[i]? = some (some (j, l')) ∧ vs[i]? = some (V.ref a) ∧ U' a ∧ OwnRep K U' H a d := fun i l d e => by
    obtain ⟨j, l', e1⟩ := T.nt i l d e
    obtain ⟨a, d', h1, h2, h3, h4, h5, _⟩ := T.tk i j l' e1
    rw [e] at h2; cases h2
    exact ⟨a, j, l', e1, h1, h4, h5⟩
  refine ⟨⟨by simp [T.len], fun i d e => ?_, fun i l d e => ?_, fun i j l l' d d' a e1 e2 s1 s2 => ?_, T.post.good.live, fun _ _ => True.intro, T.post.good.tab⟩, T.no, T.fl⟩
  · obtain ⟨v, h1, h2⟩ := T.shr i d e
    exact ⟨v, sg_get.mpr h1, h2⟩
  · obtain ⟨a, j, l', _, h1, h2, h3⟩ := ow i l d e
    exact ⟨a, sg_get.mpr h1, h2, h3, fun _ => True.intro⟩
  · obtain ⟨a1, j1, l1, t1, h1, _⟩ := ow i l d e1
    obtain ⟨a2, j2, l2, t2, h2, _⟩ := ow j l' d' e2
    rw [sg_get] at s1 s2
    exact T.ap i j1 j j2 l1 l2 t1 t2 (s1.trans s2.symm)
theorem Took.ownA {K F σ env U H vs as t env' U'} (T : Took K F σ env U H vs as t env' U') {a : Addr} (h : Own (sgOf vs) as a) : Own σ env a ∧ ¬ Own σ env' a := by
  obtain ⟨i, l, d, e, s⟩ := h
  rw [sg_get] at s
  obtain ⟨j, l', e1⟩ := T.nt i l d e
  obtain ⟨a', d', h1, h2, h3, h4, h5, h6, h7, _⟩ := T.tk i j l' e1
  rw [s] at h1; cases h1
  exact ⟨h6, h7⟩
/-- what may stand at a slot behind a call -/
def Given (t : List (Option (Nat × Bool))) (ps : List Sl) (j : Nat) (s : Sl) : Prop := ∃ (i : Nat) (l : Bool), t[i]? = some (some (j, l)) ∧ ((∃ (l' : Bool) (d' : D), ps[i]? = some (Sl.ow l' d') ∧ s = Sl.ow l d') ∨ ∃ (d' : D), ps[i]? = some (Sl.sh d') ∧ s = Sl.sh d')
theorem gives_get : ∀ (t : List (Option (Nat × Bool))) (ps : List Sl) (env : Env) (j : Nat) (s : Sl), (gives t ps env)[j]? = some s → env[j]? = some s ∨ Given t ps j s
  | [], ps, env, j, s, h => by
    left
    cases ps <;> simpa [gives] using h
  | x :: t, [], env, j, s, h => by
    left
    rcases x with _ | ⟨i, l⟩ <;> simpa [gives] using h
  | none :: t, p :: ps, env, j, s, h => by
    have h : (gives t ps env)[j]? = some s := by simpa [gives] using h
    rcases gives_get t ps env j s h with z | ⟨i, l, e1, e2⟩
    · exact .inl z
    · exact .inr ⟨i + 1, l, by simpa using e1, by simpa using e2⟩
  | some (i0, l0) :: t, .no :: ps, env, j, s, h => by
    have h : (gives t ps env)[j]? = some s := by simpa [gives] using h
    rcases gives_get t ps env j s h with z | ⟨i, l, e1, e2⟩
    · exact .inl z
    · exact .inr ⟨i + 1, l, by simpa using e1, by simpa using e2⟩
  | some (i0, l0) :: t, .sh d :: ps, env, j, s, h => by
    have h : (gives t ps (env.set i0 (.sh d)))[j]? = some s := by simpa [gives] using h
    rcases gives_get t ps _ j s h with z | ⟨i, l, e1, e2⟩
    · rcases get_set_ow z with ⟨rfl, rfl⟩ | ⟨_, z⟩
      · exact .inr ⟨0, l0, rfl, .inr ⟨d, rfl, rfl⟩⟩
      · exact .inl z
    · exact .inr ⟨i + 1, l, by simpa using e1, by simpa using e2⟩
  | some (i0, l0) :: t, .ow l1 d :: ps, env, j, s, h => by
    have h : (gives t ps (env.set i0 (.ow l0 d)))[j]? = some s := by simpa [gives] using h
    rcases gives_get t ps _ j s h with z | ⟨i, l, e1, e2⟩
    · rcases get_set_ow z with ⟨rfl, rfl⟩ | ⟨_, z⟩
      · exact .inr ⟨0, l0, rfl, .inl ⟨l1, d, rfl, rfl⟩⟩
      · exact .inl z
    · exact .inr ⟨i + 1, l, by simpa using e1, by simpa using e2⟩
theorem gives_length : ∀ (t : List (Option (Nat × Bool))) (ps : List Sl) (env : Env), (gives t ps env).length = env.length
  | [], ps, env => by cases ps <;> simp [gives]
  | x :: t, [], env => by rcases x with _ | ⟨i, l⟩ <;> simp [gives]
  | none :: t, p :: ps, env => by simpa [gives] using gives_length t ps env
  | some (i0, l0) :: t, .no :: ps, env => by simpa [gives] using gives_length t ps env
  | some (i0, l0) :: t, .sh d :: ps, env => by simpa [gives] using gives_length t ps (env.set i0 (.sh d))
  | some (i0, l0) :: t, .ow l1 d :: ps, env => by simpa [gives] using gives_length t ps (env.set i0 (.ow l0 d))
/-- behind a call -/
theorem Took.behind {K F σ env U H vs as t env1 U1 ps U' H'} {env2 : Env} (g : Gd K F σ env U H) (T : Took K F σ env U H vs as t env1 U1) (tr : Tr (Own (sgOf vs) as) U1 H U' H') (live : ∀ b, U' b → H' b ≠ none)
    (how : ∀ (i : Nat) (l l' : Bool) (d d' : D), as[i]? = some (.ow l d) → ps[i]? = some (.ow l' d') → ∃ a, vs[i]? = some (.ref a) ∧ U' a ∧ OwnRep K U' H' a d')
    (hsh : ∀ (i : Nat) (l : Bool) (d d' : D), as[i]? = some (.ow l d) → ps[i]? = some (.sh d') → ∃ v, vs[i]? = some v ∧ Rep K U' H' v d')
    (hl : env2.length = env1.length) (h2 : ∀ j s, env2[j]? = some s → env1[j]? = some s ∨ Given t ps j s) : Post K F σ env U H σ env2 U' H' := by
  have A := T.args
  have hO := A.good.hO
  have g1 := T.post.good
  have giv : ∀ j s, Given t ps j s → ∃ (i : Nat) (l : Bool) (a : Addr) (d : D), t[i]? = some (some (j, l)) ∧ vs[i]? = some (V.ref a) ∧ as[i]? = some (Sl.ow false d) ∧ σ[j]? = some (some (.ref a)) ∧ Own σ env a ∧ ¬ Own σ env1 a ∧ (l = true → F a) ∧
      ((∃ (l' : Bool) (d' : D), ps[i]? = some (Sl.ow l' d') ∧ s = Sl.ow l d') ∨ ∃ (d' : D), ps[i]? = some (Sl.sh d') ∧ s = Sl.sh d') := fun j s ⟨i, l, e, q⟩ => by
    obtain ⟨a, d, h1, h2, h3, h4, h5, h6, h7, h8, _⟩ := T.tk i j l e
    exact ⟨i, l, a, d, e, h1, h2, h3, h6, h7, h8, q⟩
  refine ⟨⟨fun b o e n t => tr.keep b o e (fun z => n (T.ownA z).1) t, tr.tab, tr.live, fun b u => ?_, fun b u n => tr.res b (T.post.tr.res b u n) fun z => n (T.ownA z).1⟩, ⟨hl.trans g1.len, fun j d e => ?_, fun j l d e => ?_, fun j1 j2 l1 l2 d1 d2 a e1 e2 s1 s2 => ?_, live, fun b e => ?_, tr.tab g.tab⟩, fun b ⟨j, l, d, e, s⟩ => ?_⟩
  · rcases tr.sub b u with z | z
    · exact T.post.tr.sub b z
    · exact .inr z
  · rcases h2 j _ e with z | z
    · obtain ⟨v, h1, r⟩ := g1.sh j d z
      exact ⟨v, h1, r.mono tr hO⟩
    · obtain ⟨i, l, a, d0, t1, v1, a1, s1, _, _, _, q⟩ := giv j _ z
      rcases q with ⟨_, _, _, q⟩ | ⟨d', p1, q⟩
      · cases q
      · cases q
        obtain ⟨v, h1, r⟩ := hsh i _ _ _ a1 p1
        rw [v1] at h1; cases h1
        exact ⟨_, s1, r⟩
  · rcases h2 j _ e with z | z
    · obtain ⟨a, h1, u, o, f⟩ := g1.ow j l d z
      have na : ¬ Own (sgOf vs) as a := fun y => (T.ownA y).2 ⟨j, l, d, z, h1⟩
      exact ⟨a, h1, tr.res a u na, o.mono tr hO na, f⟩
    · obtain ⟨i, l0, a, d0, t1, v1, a1, s1, _, _, f, q⟩ := giv j _ z
      rcases q with ⟨l', d', p1, q⟩ | ⟨_, _, q⟩
      · cases q
        obtain ⟨a', h1, u, o⟩ := how i _ _ _ _ a1 p1
        rw [v1] at h1; cases h1
        exact ⟨a, s1, u, o, f⟩
      · cases q
  · rcases h2 j1 _ e1 with z1 | z1
    · rcases h2 j2 _ e2 with z2 | z2
      · exact g1.inj j1 j2 _ _ _ _ a z1 z2 s1 s2
      · obtain ⟨i, l0, a', d0, t1, v1, a1, s3, _, n, _⟩ := giv j2 _ z2
        rw [s2] at s3; cases s3
        exact absurd ⟨j1, l1, d1, z1, s1⟩ n
    · obtain ⟨i, l0, a', d0, t1, v1, a1, s3, _, n, _⟩ := giv j1 _ z1
      rw [s1] at s3; cases s3
      rcases h2 j2 _ e2 with z2 | z2
      · exact absurd ⟨j2, l2, d2, z2, s2⟩ n
      · obtain ⟨i', l0', a'', d0', t1', v1', a1', s3', _⟩ := giv j2 _ z2
        rw [s2] at s3'; cases s3'
        have := T.ap i j1 i' j2 _ _ t1 t1' (v1.trans v1'.symm)
        subst this
        rw [t1] at t1'
        cases t1'
        rfl
  · refine g.frs b (Classical.byContradiction fun z => tr.live b z e)
  · rcases h2 j _ e with z | z
    · exact T.post.own b ⟨j, l, d, z, s⟩
    · obtain ⟨i, l0, a', d0, t1, v1, a1, s3, o, _⟩ := giv j _ z
      rw [s] at s3; cases s3
      exact .inl o

section
variable {X : Cx} {B : Sx} {L : Lib}
theorem doCall_ok {σ : Sg} {env : Env} {U : Addr → Prop} {H : Hp} {f : Nat} {xs : List Arg} {pm : List Nat} {vs : List V} {np : Nat} {Q : VK} (hK : X.K = B.K) (hnp : pm.length = np) (hbor : (L.bor f).length = np) (hlt : ∀ k ∈ pm, k < xs.length)
    (g : Gd B.K B.F σ env U H) (oks : AOks B.K σ U H vs xs) (h : Wp B σ env U H (doCall L f xs pm env) fun x env' U' H' => ∀ v, VRep B.K σ env' U' H' H v x.1 x.2 → Q v H') :
    spF X.K B.XR np (L.C f) (pm.map fun k => vs.getD k .non) H Q (fun c d H' => B.W c d σ H') := by
  have aoks : ∀ pm : List Nat, (∀ k ∈ pm, k < xs.length) → AOks B.K σ U H (pm.map fun k => vs.getD k .non) (pm.map fun k => xs.getD k (.val .non)) := by
    intro pm
    induction pm with
    | nil => intro _; exact .nil
    | cons k r ih =>
      intro hl
      refine .cons ?_ (ih fun k' h => hl k' (List.mem_cons_of_mem _ h))
      have hk := hl k List.mem_cons_self
      clear h ih hl hlt hnp
      revert k
      induction oks with
      | nil => intro k hk; simp at hk
      | cons h1 h2 ih =>
        intro k hk
        cases k with
        | zero => exact h1
        | succ k => exact ih k (by simpa using hk)
  have zip1 : ∀ (ys : List Arg) (bs : List Bool), ys.length = bs.length → (ys.zip bs).map (·.1) = ys := by
    intro ys
    induction ys with
    | nil => intro bs _; simp
    | cons y ys ih =>
      intro bs hb
      cases bs with
      | nil => simp at hb
      | cons b bs => simp at hb; simp [ih bs hb]
  unfold doCall at h
  have ha := aoks pm hlt
  cases ht : takes ((pm.map fun k => xs.getD k (.val .non)).zip (L.bor f)) env with
  | none => rw [ht] at h; exact h.elim
  | some z =>
    obtain ⟨as, t, env1⟩ := z
    rw [ht] at h
    simp only at h
    obtain ⟨U1, T⟩ := takes_ok g (by rw [zip1 _ _ (by rw [List.length_map, hnp, hbor])]; exact ha) ht
    have hvl : (pm.map fun k => vs.getD k V.non).length = np := by rw [List.length_map, hnp]
    refine ⟨as, U1, hvl, by rw [← T.len, hvl], hK ▸ T.args, ?_⟩
    cases hc : L.C f as with
    | bad => rw [hc] at h; exact h.elim
    | ex x =>
      rw [hc] at h
      intro c dx U' H' tr live xr
      refine h U' H' c dx (T.behind (ps := []) g tr live (fun i l l' d d' _ z => by simp at z) (fun i l d d' _ z => by simp at z) rfl fun j s e => .inl e) xr
    | ok d fr ps =>
      rw [hc] at h
      intro v U' H' cp cv
      rw [hK] at cp cv
      have p := T.behind (ps := ps) g cp.tr cp.live cp.ow cp.sh (gives_length t ps env1) (gives_get t ps env1)
      refine h U' H' p v ?_
      cases fr with
      | false => exact cv
      | true =>
        obtain ⟨a, e, u, o, hn⟩ := cv
        refine ⟨a, e, u, o, fun z => ?_, hn⟩
        rcases p.own a z with y | y
        · obtain ⟨_, xs, q⟩ := g.hO a y
          rw [hn] at q; cases q
        · -- new and owned by the frame: no, it is no slot's
          obtain ⟨j, l, d', e1, s1⟩ := z
          rcases gives_get t ps env1 j _ e1 with w | w
          · rcases T.post.own a ⟨j, l, d', w, s1⟩ with q | q
            · obtain ⟨_, xs, q⟩ := g.hO a q
              rw [hn] at q; cases q
            · obtain ⟨a', q1, q2, q3, _⟩ := T.post.good.ow j l d' w
              rw [s1] at q1; cases q1
              obtain ⟨xs, q3⟩ := q3.lst
              rw [hn] at q3; cases q3
          · obtain ⟨i, l0, t1, _⟩ := w
            obtain ⟨a', d0, _, _, s3, _, _, h6, _⟩ := T.tk i j l0 t1
            rw [s1] at s3; cases s3
            obtain ⟨_, xs, q⟩ := g.hO a h6
            rw [hn] at q; cases q

variable {es : List Expr} {es1 es2 : List E} {kws : List Keyword}
theorem args_append : ∀ (es1 es2 : List E) (env : Env), args L (es1 ++ es2) env = (args L es1 env).bind fun xs e1 => (args L es2 e1).bind fun ys e2 => .ok (xs ++ ys) e2
  | [], es2, env => by
    simp only [List.nil_append, args, Res.bind_ok]
    cases args L es2 env <;> rfl
  | e :: es1, es2, env => by
    simp only [List.cons_append, args, Res.bind_assoc, Res.bind_ok]
    congr 1
    funext x e1
    rw [args_append es1 es2 e1]
    simp only [Res.bind_assoc, Res.bind_ok]
theorem _root_.L2.PK.imp {t t' : TA} (h : PK X kws t) (k : ∀ σ H Q, t' σ H Q → t σ H Q) : PK X kws t' := ⟨fun pos pins s σ H Q I hw => h.run pos pins s σ H Q I (k σ H Q hw)⟩
theorem snd_nilK : PK X [] (rdAs B L []) := (pk_nil).imp fun σ H Q ⟨env, U, g, h⟩ => h U H (.refl g) [] .nil
theorem snd_consK {a : Expr} {a' : E} {nm : Option Str} {kpos : Pos} (ha : PE X a (rdA B L a')) (hr : PK X kws (rdAs B L es2)) : PK X (⟨nm, a, kpos⟩ :: kws) (rdAs B L (a' :: es2)) := by
  refine (pk_cons ha hr).imp fun σ H Q ⟨env, U, g, h⟩ => ?_
  simp only [args] at h
  refine ⟨env, U, g, (Wp.bind g h).imp fun x env1 U1 H1 _ p1 h1 v ok1 => ⟨env1, U1, p1.good, (Wp.bind p1.good h1).imp fun xs env2 U2 H2 _ p2 h2 vs oks => ?_⟩⟩
  exact Wp.ok p2.good h2 _ (.cons (ok1.mono p1.good p2) oks)
theorem AOks.length {K σ U H} : ∀ {vs : List V} {xs : List Arg}, AOks K σ U H vs xs → vs.length = xs.length
  | _, _, .nil => rfl
  | _, _, .cons _ t => congrArg (· + 1) (AOks.length t)
theorem AOks.append {K σ U H} : ∀ {vs ws : List V} {xs ys : List Arg}, AOks K σ U H vs xs → AOks K σ U H ws ys → AOks K σ U H (vs ++ ws) (xs ++ ys)
  | _, _, _, _, .nil, q => q
  | _, _, _, _, .cons r t, q => .cons r (AOks.append t q)
theorem args_length : ∀ (es : List E) (env : Env) (ds : List Arg) (e1 : Env), args L es env = .ok ds e1 → ds.length = es.length := by
  intro es
  induction es with
  | nil => intro env ds e1 h; simp only [args] at h; cases h; rfl
  | cons a r ih =>
    intro env ds e1 h
    simp only [args] at h
    cases ha : argOf a (eval L a env) env with
    | bad => rw [ha] at h; cases h
    | ex x e => rw [ha] at h; cases h
    | ok x e =>
      rw [ha, Res.bind_ok] at h
      cases hb : args L r e with
      | bad => rw [hb] at h; cases h
      | ex x e => rw [hb] at h; cases h
      | ok y e2 =>
        rw [hb, Res.bind_ok] at h
        cases h
        rw [List.length_cons, List.length_cons, ih _ _ _ hb]
/-- how a def's parameters are bound by so many positions and such keywords -/
def BindsP (fd : FuncData) (ps : List Str) (m : Nat) (ks : List Str) (pm : List Nat) : Prop :=
  ∀ (s : Shared) (us ws : List Value), us.length = m → ws.length = ks.length → BindsTo s fd ⟨us, ks.zip ws⟩ (ps.zip (pm.map fun k => (us ++ ws).getD k .none))
theorem vals_pm {vs : List V} {us : List Value} (r : Vals vs us) : ∀ pm : List Nat, Vals (pm.map fun k => vs.getD k .non) (pm.map fun k => us.getD k .none)
  | [] => .nil
  | k :: pm => by
    refine .cons ?_ (vals_pm r pm)
    clear pm
    induction r generalizing k with
    | nil => exact rfl
    | cons h t ih =>
      cases k with
      | zero => exact h
      | succ k => exact ih k
/-- f(e, .., k = v, ..) -/
theorem snd_call {n : Nat} {fa : Addr} {fd : FuncData} {ps ks : List Str} {x : Str} {p pos : Pos} {f : Nat} {pm : List Nat} (hK : X.K = B.K) (F : FnOk X.prog X.w X.K X.mg X.base (L2.CX X.prog X.w) n fa fd ps (spF X.K B.XR ps.length (L.C f)))
    (hr : Room n X.A) (tk : Takes X B.W) (hg : Gl X x) (hm : X.mg x = some (.ref fa)) (hk : PySem.W.keepIn X.K (.ref fa) = true) (hdb : (x == ("__debug__" : Str)) = false)
    (hb : BindsP fd ps es1.length ks pm) (hnp : pm.length = ps.length) (hbor : (L.bor f).length = ps.length) (hlt : ∀ k ∈ pm, k < (es1 ++ es2).length)
    (ha : PA X es (rdAs B L es1)) (hkw : PK X kws (rdAs B L es2)) (hes : es.length = es1.length) (hk2 : es2.length = ks.length)
    (hall : (backToKw pos (keywordEach kws X.env)).all (·.1.isSome) = true) (hks : (backToKw pos (keywordEach kws X.env)).filterMap (·.1) = ks)
    (hpl : ((backTo pos (starEach es X.env)).any (·.1) || (backToKw pos (keywordEach kws X.env)).any (·.1.isNone)) = false)
    (hst : ∀ e r, es = e :: r → starEach (e :: r) X.env = (false, PySem.eval e X.env) :: starEach r X.env) :
    PE X (.Call (.Name x p) es kws pos) (rdE B L (.call f (es1 ++ es2) pm)) := by
  refine ⟨fun pins s σ H Q I ⟨env, U, g, h⟩ => ?_⟩
  refine wpAny_Call_Name_kw (ld_glob I hg hm ?_ hdb)
  simp only [eval] at h
  rw [args_append, Res.bind_assoc] at h
  -- the call itself
  have run : ∀ (s2 : Shared) (H2 : Hp) (us ws : List Value) (vs zs : List V) (Q2 : VK), Inv X pins σ H2 s2 → Vals vs us → Vals zs ws → us.length = es1.length → ws.length = ks.length →
      spF X.K B.XR ps.length (L.C f) (pm.map fun k => (vs ++ zs).getD k .non) H2 Q2 (fun c d H' => B.W c d σ H') → wpAny (model X.prog X.w) X.A (call (.ref fa) us (ks.zip ws)) (EP X pins σ Q2) X.xe s2 := by
    intro s2 H2 us ws vs zs Q2 I2 rv rz hu hw hsp
    have r2 := vals_pm (rv.append rz) pm
    refine wpAny_call (codeAny_mono (F.run X.A X.stack s2 H2 ⟨us, ks.zip ws⟩ _ _ Q2 _ hr I2.env0 (hb s2 us ws hu hw) r2 hsp) fun r s' hq => ?_)
    cases r with
    | error e => exact passAt tk σ pins H2 s2 e s' I2 hq
    | ok fl =>
      cases fl with
      | ret u => exact I2.after hq
      | next => exact False.elim hq
      | brk => exact False.elim hq
      | cont => exact False.elim hq
  have key : ∀ (xs ys : List Arg) (env1 env2 : Env) (U2 : Addr → Prop) (H2 : Hp) (vs zs : List V), args L es1 env = .ok xs env1 → args L es2 env1 = .ok ys env2 → Post B.K B.F σ env U H σ env2 U2 H2 → AOks B.K σ U2 H2 vs xs → AOks B.K σ U2 H2 zs ys →
      Wp B σ env2 U2 H2 (doCall L f (xs ++ ys) pm env2) (fun x env' U' H' => ∀ v, VRep B.K σ env' U' H' H v x.1 x.2 → Q v H') →
      spF X.K B.XR ps.length (L.C f) (pm.map fun k => (vs ++ zs).getD k .non) H2 Q (fun c d H' => B.W c d σ H') := by
    intro xs ys env1 env2 U2 H2 vs zs hx hy p2 ok1 ok2 hw
    refine doCall_ok hK hnp hbor ?_ p2.good (ok1.append ok2) (hw.imp fun x env' U' H' _ _ q v vr => q v (vr.start p2.back))
    intro k hk
    have := hlt k hk
    rw [List.length_append] at this ⊢
    rw [args_length _ _ _ _ hx, args_length _ _ _ _ hy]
    exact this
  have h1 := (Wp.bind g h)
  have full : ∀ {A : List Value → Shared → Prop} (hA : ∀ us s1 vs xs env1 U1 H1, Inv X pins σ H1 s1 → Vals vs us → args L es1 env = .ok xs env1 → Post B.K B.F σ env U H σ env1 U1 H1 → AOks B.K σ U1 H1 vs xs →
      Wp B σ env1 U1 H1 (((args L es2 env1).bind fun ys e2 => Res.ok (xs ++ ys) e2).bind fun xs env1 => doCall L f xs pm env1) (fun x env' U' H' => ∀ v, VRep B.K σ env' U' H' H v x.1 x.2 → Q v H') → A us s1),
      wpAny (model X.prog X.w) X.A (spliced (backTo pos (starEach es X.env))) A X.xe s := by
    intro A hA
    refine thn (ha.run pos pins s σ H (fun vs H1 => ∃ xs env1 U1, args L es1 env = .ok xs env1 ∧ Post B.K B.F σ env U H σ env1 U1 H1 ∧ AOks B.K σ U1 H1 vs xs ∧
      Wp B σ env1 U1 H1 (((args L es2 env1).bind fun ys e2 => Res.ok (xs ++ ys) e2).bind fun xs env1 => doCall L f xs pm env1) (fun x env' U' H' => ∀ v, VRep B.K σ env' U' H' H v x.1 x.2 → Q v H')) I ⟨env, U, g, ?_⟩) fun us s1 ⟨vs, H1, I1, rv, xs, env1, U1, hx, p1, oks, w⟩ => hA us s1 vs xs env1 U1 H1 I1 rv hx p1 oks w
    exact h1.imp fun xs env1 U1 H1 hx p1 w vs oks => ⟨xs, env1, U1, hx, p1, oks, w⟩
  have kfull : ∀ {A : List Value → Shared → Prop} (s1 : Shared) (vs : List V) (xs : List Arg) (env1 : Env) (U1 : Addr → Prop) (H1 : Hp), Inv X pins σ H1 s1 → args L es1 env = .ok xs env1 → Post B.K B.F σ env U H σ env1 U1 H1 → AOks B.K σ U1 H1 vs xs →
      Wp B σ env1 U1 H1 (((args L es2 env1).bind fun ys e2 => Res.ok (xs ++ ys) e2).bind fun xs env1 => doCall L f xs pm env1) (fun x env' U' H' => ∀ v, VRep B.K σ env' U' H' H v x.1 x.2 → Q v H') →
      (∀ ws s2 zs H2, Inv X pins σ H2 s2 → Vals zs ws → ws.length = ks.length → spF X.K B.XR ps.length (L.C f) (pm.map fun k => (vs ++ zs).getD k .non) H2 Q (fun c d H' => B.W c d σ H') → A ws s2) →
      wpAny (model X.prog X.w) X.A (evalAll ((backToKw pos (keywordEach kws X.env)).map (·.2))) A X.xe s1 := by
    intro A s1 vs xs env1 U1 H1 I1 hx p1 oks w hA
    rw [Res.bind_assoc] at w
    refine thn (hkw.run pos pins s1 σ H1 (fun zs H2 => ∃ ys env2 U2, args L es2 env1 = .ok ys env2 ∧ Post B.K B.F σ env1 U1 H1 σ env2 U2 H2 ∧ AOks B.K σ U2 H2 zs ys ∧
      Wp B σ env2 U2 H2 (doCall L f (xs ++ ys) pm env2) (fun x env' U' H' => ∀ v, VRep B.K σ env' U' H' H v x.1 x.2 → Q v H')) I1 ⟨env1, U1, p1.good, ?_⟩) fun ws s2 ⟨zs, H2, I2, rz, ys, env2, U2, hy, p2, oks2, w2⟩ => ?_
    · exact (Wp.bind p1.good w).imp fun ys env2 U2 H2 hy p2 w2 zs oks2 => ⟨ys, env2, U2, hy, p2, oks2, w2⟩
    · refine hA ws s2 zs H2 I2 rz ?_ (key xs ys env1 env2 U2 H2 vs zs hx hy (p1.trans g p2) (oks.mono p1.good p2) oks2 w2)
      rw [← rz.length, oks2.length, args_length _ _ _ _ hy, hk2]
  have ulen : ∀ {us : List Value} {vs : List V} {xs : List Arg} {env1 : Env} {U1 : Addr → Prop} {H1 : Hp}, Vals vs us → AOks B.K σ U1 H1 vs xs → args L es1 env = .ok xs env1 → us.length = es1.length := fun rv oks hx => by
    rw [← rv.length, oks.length, args_length _ _ _ _ hx]
  cases es with
  | nil =>
    have he1 : es1 = [] := by cases es1 with | nil => rfl | cons _ _ => simp at hes
    refine PySem.W.callWith_KW0 (h₀ := X.base) I.ok.mod.kin hk hall ?_ hpl
    subst he1
    have hx : args L [] env = .ok [] env := by simp only [args]
    have w : Wp B σ env U H (((args L es2 env).bind fun ys e2 => Res.ok ([] ++ ys) e2).bind fun xs env1 => doCall L f xs pm env1) (fun x env' U' H' => ∀ v, VRep B.K σ env' U' H' H v x.1 x.2 → Q v H') := by
      rw [hx] at h1
      exact Wp.ok g h1
    refine kfull s [] [] env U H I hx (.refl g) .nil w fun ws s2 zs H2 I2 rz hw hsp => ⟨I2.kIn, ?_⟩
    rw [hks]
    exact run s2 H2 [] ws [] zs Q I2 .nil rz rfl hw hsp
  | cons e r =>
    have hplr : (backTo pos (starEach r X.env)).any (·.1) = false := by
      rw [hst e r rfl] at hpl
      have : ((backTo pos ((false, PySem.eval e X.env) :: starEach r X.env)).any (·.1) || (backToKw pos (keywordEach kws X.env)).any (·.1.isNone)) = (((backTo pos (starEach r X.env)).any (·.1)) || (backToKw pos (keywordEach kws X.env)).any (·.1.isNone)) := by
        simp [backTo]
      rw [this] at hpl
      exact (Bool.or_eq_false_iff.mp hpl).1
    refine PySem.W.callWith_KW (h₀ := X.base) I.ok.mod.kin hk hall (full fun us s1 vs xs env1 U1 H1 I1 rv hx p1 oks w => ?_) hpl (hst e r rfl)
    refine kfull s1 vs xs env1 U1 H1 I1 hx p1 oks w fun ws s2 zs H2 I2 rz hw hsp => ⟨I2.kIn, ?_⟩
    rw [hks]
    exact run s2 H2 us ws vs zs Q I2 rv rz (ulen rv oks hx) hw hsp
end
end Pi

set_option Elab.async false
set_option linter.all false
set_option maxRecDepth 100000
set_option maxHeartbeats 4000000
/-! PiI: what is walked; targets; comprehensions. -/
namespace Pi
open PySem PySem.Spec PyProof.Rows L2
variable [HasT]

/-! ### targets -/
theorem Post.store {K F σ env U H} {i : Nat} {v : V} {d : D} (g : Gd K F σ env U H) (hi : i < env.length) (r : Rep K U H v d) : Post K F σ env U H (σ.set i (some v)) (env.set i (.sh d)) U H := by
  have hiσ : i < σ.length := by rw [← g.len]; exact hi
  have get : ∀ {j : Nat} {s : Sl}, (env.set i (.sh d))[j]? = some s → (i = j ∧ s = .sh d) ∨ (i ≠ j ∧ env[j]? = some s ∧ (σ.set i (some v))[j]? = σ[j]?) := fun {j s} h => by
    rcases get_set_ow h with ⟨e, q⟩ | ⟨n, q⟩
    · exact .inl ⟨e, q⟩
    · exact .inr ⟨n, q, by rw [List.getElem?_set_ne n]⟩
  refine ⟨Tr.refl _ _ _, ⟨by simpa using g.len, fun j d' h => ?_, fun j l d' h => ?_, fun j k l1 l2 d1 d2 b h1 h2 s1 s2 => ?_, g.live, g.frs, g.tab⟩, fun b ⟨j, l, d', h, s⟩ => ?_⟩
  · rcases get h with ⟨rfl, q⟩ | ⟨n, q, e⟩
    · cases q
      exact ⟨v, by rw [List.getElem?_set_self hiσ], r⟩
    · rw [e]; exact g.sh j d' q
  · rcases get h with ⟨rfl, q⟩ | ⟨n, q, e⟩
    · cases q
    · rw [e]; exact g.ow j l d' q
  · rcases get h1 with ⟨rfl, q⟩ | ⟨n, q1, e1⟩
    · cases q
    · rcases get h2 with ⟨rfl, q⟩ | ⟨n, q2, e2⟩
      · cases q
      · rw [e1] at s1
        rw [e2] at s2
        exact g.inj j k _ _ _ _ b q1 q2 s1 s2
  · rcases get h with ⟨rfl, q⟩ | ⟨n, q, e⟩
    · cases q
    · rw [e] at s
      exact .inl ⟨j, l, d', q, s⟩
/-- storing a value that is new: the slot owns it -/
theorem Post.storeOw {K F σ env U H} {i : Nat} {a : Addr} {d : D} (g : Gd K F σ env U H) (hi : i < env.length) (u : U a) (o : OwnRep K U H a d) (n : ¬ Own σ env a) (f : F a) :
    Gd K F (σ.set i (some (.ref a))) (env.set i (.ow true d)) U H ∧ ∀ b, Own (σ.set i (some (.ref a))) (env.set i (.ow true d)) b → Own σ env b ∨ b = a := by
  have hiσ : i < σ.length := by rw [← g.len]; exact hi
  have get : ∀ {j : Nat} {s : Sl}, (env.set i (.ow true d))[j]? = some s → (i = j ∧ s = .ow true d) ∨ (i ≠ j ∧ env[j]? = some s ∧ (σ.set i (some (V.ref a)))[j]? = σ[j]?) := fun {j s} h => by
    rcases get_set_ow h with ⟨e, q⟩ | ⟨n, q⟩
    · exact .inl ⟨e, q⟩
    · exact .inr ⟨n, q, by rw [List.getElem?_set_ne n]⟩
  refine ⟨⟨by simpa using g.len, fun j d' h => ?_, fun j l d' h => ?_, fun j k l1 l2 d1 d2 b h1 h2 s1 s2 => ?_, g.live, g.frs, g.tab⟩, fun b ⟨j, l, d', h, s⟩ => ?_⟩
  · rcases get h with ⟨rfl, q⟩ | ⟨n, q, e⟩
    · cases q
    · rw [e]; exact g.sh j d' q
  · rcases get h with ⟨rfl, q⟩ | ⟨n, q, e⟩
    · cases q
      exact ⟨a, by rw [List.getElem?_set_self hiσ], u, o, fun _ => f⟩
    · rw [e]; exact g.ow j l d' q
  · rcases get h1 with ⟨rfl, q1⟩ | ⟨n1, q1, e1⟩
    · rcases get h2 with ⟨rfl, q2⟩ | ⟨n2, q2, e2⟩
      · rfl
      · rw [List.getElem?_set_self hiσ] at s1
        cases s1
        rw [e2] at s2
        exact absurd ⟨k, l2, d2, q2, s2⟩ n
    · rcases get h2 with ⟨rfl, q2⟩ | ⟨n2, q2, e2⟩
      · rw [List.getElem?_set_self hiσ] at s2
        cases s2
        rw [e1] at s1
        exact absurd ⟨j, l1, d1, q1, s1⟩ n
      · rw [e1] at s1
        rw [e2] at s2
        exact g.inj j k _ _ _ _ b q1 q2 s1 s2
  · rcases get h with ⟨rfl, q⟩ | ⟨n, q, e⟩
    · rw [List.getElem?_set_self hiσ] at s
      cases s
      exact .inr rfl
    · rw [e] at s
      exact .inl ⟨j, l, d', q, s⟩
def rdG (B : Sx) (tg : Tg) : TG := fun v σ H Q => ∃ env U d env', Gd B.K B.F σ env U H ∧ Rep B.K U H v d ∧ tg.store d false env = some env' ∧
  ∀ σ' : Sg, Post B.K B.F σ env U H σ' env' U H → (∀ i, i ∉ tg.slots → σ'[i]? = σ[i]?) → Q σ' H
section
variable {X : Cx} {B : Sx} {L : Lib}
theorem snd_gname {i : Nat} {x : Str} {pos : Pos} (hN : X.N.Nodup) (hi : X.N[i]? = some x) (hx : Loc X.env.scope x) (hf : X.fn x = true ∨ X.env.scope.names.lookup x = some .local) : PG X (.Name x pos) (rdG B (.name i)) := by
  refine ⟨fun pins s σ H v u Q I r ⟨env, U, d, env', g, rep, e, h⟩ => ?_⟩
  refine (pg_name hN hi hx hf).run pins s σ H v u Q I r ?_
  simp only [Tg.store] at e
  split at e
  · rename_i hlt
    cases e
    refine h _ (Post.store g hlt rep) fun j hj => ?_
    rw [List.getElem?_set_ne (fun z => hj (by simp [Tg.slots, z]))]
  · cases e
/-- several names, one after another -/
inductive PNs (X : Cx) : List Expr → List Nat → Prop
  | nil : PNs X [] []
  | cons {i : Nat} {x : Str} {pos : Pos} {es : List Expr} {is : List Nat} (hi : X.N[i]? = some x) (hx : Loc X.env.scope x) (hf : X.fn x = true ∨ X.env.scope.names.lookup x = some .local) (t : PNs X es is) : PNs X (.Name x pos :: es) (i :: is)
def rdGs (B : Sx) (is : List Nat) : TGs := fun vs σ H Q => ∃ env U ds env', Gd B.K B.F σ env U H ∧ RepAll B.K U H vs ds ∧ storeT is ds env = some env' ∧
  ∀ σ' : Sg, Post B.K B.F σ env U H σ' env' U H → (∀ i, i ∉ is → σ'[i]? = σ[i]?) → Q σ' H
theorem snd_gs (hN : X.N.Nodup) : ∀ {es : List Expr} {is : List Nat}, PNs X es is → PGs X es (rdGs B is)
  | _, _, .nil => by
    refine ⟨fun pins s σ H vs us Q I r ⟨env, U, ds, env', g, rep, e, h⟩ => ?_⟩
    cases ds with
    | nil =>
      cases rep
      simp only [storeT] at e
      cases e
      exact pgs_nil.run pins s σ H [] us Q I r ⟨rfl, h σ (.refl g) fun _ _ => rfl⟩
    | cons d ds => simp [storeT] at e
  | _, _, .cons (i := i) (x := x) (pos := pos) (es := es) (is := is) hi hx hf t => by
    refine ⟨fun pins s σ H vs us Q I r ⟨env, U, ds, env', g, rep, e, h⟩ => ?_⟩
    cases ds with
    | nil => simp [storeT] at e
    | cons d ds =>
      cases rep with
      | @cons v vs _ _ r1 rs =>
        simp only [storeT] at e
        split at e
        · rename_i hlt
          have p1 := Post.store g hlt r1
          refine (pgs_cons (pg_name (pos := pos) hN hi hx hf) (snd_gs hN t) (by rfl)).run pins s σ H _ us Q I r ⟨v, vs, rfl, env.set i (.sh d), U, ds, env', p1.good, p1.reps g rs, e, fun σ' p2 ag => h σ' (p1.trans g p2) fun j hj => ?_⟩
          rw [ag j (fun z => hj (List.mem_cons_of_mem _ z)), List.getElem?_set_ne (fun z => hj (by simp [z]))]
        · cases e
theorem snd_gtup {es : List Expr} {is : List Nat} {k : Nat} {pos : Pos} (hK : X.K = B.K) (hc : X.calm = true) (hN : X.N.Nodup) (hs : PNs X es is) : PG X (.Tuple es k pos) (rdG B (.tup is)) := by
  have hl : (assignEach es X.env).length = is.length := by
    clear hN
    induction hs with
    | nil => rfl
    | cons _ _ _ _ ih => show (_ :: assignEach _ _).length = _; rw [List.length_cons, ih]; rfl
  have hst : (assignEach es X.env).findIdx? (·.1) = none := by
    clear hN hl
    induction hs with
    | nil => rfl
    | cons _ _ _ _ ih =>
      show List.findIdx? (·.1) ((false, _) :: assignEach _ _) = none
      simp only [List.findIdx?_cons, ih]
      rfl
  refine ⟨fun pins s σ H v u Q I r ⟨env, U, d, env', g, rep, e, h⟩ => ?_⟩
  have len : ∀ (is : List Nat) (ds : List D) (env env' : Env), storeT is ds env = some env' → ds.length = is.length := by
    intro is
    induction is with
    | nil => intro ds env env' e; cases ds with | nil => rfl | cons _ _ => simp [storeT] at e
    | cons i is ih =>
      intro ds env env' e
      cases ds with
      | nil => simp [storeT] at e
      | cons d ds =>
        simp only [storeT] at e
        split at e
        · rw [List.length_cons, List.length_cons, ih _ _ _ e]
        · cases e
  cases d with
  | tup ds =>
    obtain ⟨a, vs, rfl, h1, h2⟩ := (Pk.sh rep).tup
    exact (pg_tup hc (snd_gs hN hs) hl hst).run pins s σ H _ u Q I r ⟨a, vs, rfl, hK ▸ h1, by rw [h2.length, len _ _ _ _ e], env, U, ds, env', g, h2, e, h⟩
  | lst ds =>
    obtain ⟨a, vs, rfl, h1, h2⟩ := (Pk.sh rep).lst
    exact (pg_lst hc (snd_gs hN hs) hl hst).run pins s σ H _ u Q I r ⟨a, vs, rfl, .inl h1, by rw [h2.length, len _ _ _ _ e], env, U, ds, env', g, h2, e, h⟩
  | _ => simp [Tg.store] at e
end
end Pi

set_option Elab.async false
set_option linter.all false
set_option maxRecDepth 100000
set_option maxHeartbeats 4000000
/-! PiIe: enumerate(tuple). -/
namespace Pi
open PySem PySem.Spec PyProof.Rows L2
variable [HasT]
open Sem (wp)

theorem meets_enumT (l : Addr) (items : Array Value) :
    Meets (Builtin.«enumerate.__new__» ⟨[.type "enumerate", .ref l], []⟩) (fun _ R s => s.heap.IsTuple l items ∧
      R (.ok (.ret (.ref (s.heap.push { cls := .type "tuple_iterator", data := .fields #[.ref l, .int 0 0] }).objs.size)))
        { s with heap := (s.heap.push { cls := .type "tuple_iterator", data := .fields #[.ref l, .int 0 0] }).push { cls := .type "enumerate", data := .fields #[.none, .bool false, .ref s.heap.objs.size, rawInt 0, .none, .none] } }) :=
  .of_wp fun prog w A R s h => by
    obtain ⟨hp, g, d, tk, os⟩ := s; obtain ⟨hl, h⟩ := h
    have hsub := sub_enumerate
    have hL : Heap.IsTuple (Shared.heap ⟨hp, g, d, tk, os⟩) l items := hl
    have q1 : ∀ {A' : Around} {E : Value → Shared → Prop} {Q : Value → Shared → Prop}, Q (.ref hp.objs.size) ⟨hp.push { cls := .type "tuple_iterator", data := .fields #[.ref l, .int 0 0] }, g, d, tk, os⟩ → wpAny (model prog w) A' (pyIter (.ref l)) Q E ⟨hp, g, d, tk, os⟩ :=
      fun q => wpAny_pyIter_tuple hL q
    wp_walk using q1
    refine wpAny_stack_any fun st => wpAny_pure ?_
    split
    · rename_i c _ _ _ _ _
      cases (c == Value.type "enumerate")
      · wp_walk using q1
        exact ⟨_, rfl, h⟩
      · wp_walk using q1
        exact ⟨_, rfl, h⟩
    · wp_walk using q1
      exact ⟨_, rfl, h⟩
theorem call_enumT {prog : Program} {w : World} {A : Around} {E : Value → Shared → Prop} {s : Shared} {l : Addr} {items : Array Value} {Q : Value → Shared → Prop} (hL : s.heap.IsTuple l items)
    (h : ∀ h', IsEnum h' (s.heap.objs.size + 1) s.heap.objs.size 0 .none → h'.IsTupleIter s.heap.objs.size l 0 → h'.objs.size = s.heap.objs.size + 2 →
      (∀ b o, s.heap.get? b = some o → h'.get? b = some o) → Q (.ref (s.heap.objs.size + 1)) { s with heap := h' }) :
    wpAny (model prog w) A (call (.type "enumerate") [.ref l]) Q E s := by
  refine callType_new F.called_enumerate (by decide) (F.typeCall_enumerate_1 _) (F.newCall_enumerate_1 _) (fun obj => F.args_object_init_2 obj _) F.entry_enumerate_new
    (meets_enumT l items) ⟨hL, ?_⟩
  have hz : (s.heap.push { cls := .type "tuple_iterator", data := .fields #[.ref l, .int 0 0] }).objs.size = s.heap.objs.size + 1 := Heap.size_push ..
  show _ ∧ _
  rw [hz]
  have he : IsEnum ((s.heap.push { cls := .type "tuple_iterator", data := .fields #[.ref l, .int 0 0] }).push
      { cls := .type "enumerate", data := .fields #[.none, .bool false, .ref s.heap.objs.size, rawInt 0, .none, .none] }) (s.heap.objs.size + 1) s.heap.objs.size 0 .none := by
    have := Heap.get?_push_size (s.heap.push { cls := .type "tuple_iterator", data := .fields #[.ref l, .int 0 0] })
      (o := { cls := .type "enumerate", data := .fields #[.none, .bool false, .ref s.heap.objs.size, rawInt 0, .none, .none] }) rfl
    rw [hz] at this; exact this
  refine ⟨⟨_, he, rfl⟩, h _ he ⟨_, Heap.get?_push_of_some _ (Heap.get?_push_size _ rfl), rfl, rfl⟩ (by rw [Heap.size_push, hz]) fun b o x => Heap.get?_push_of_some _ (Heap.get?_push_of_some _ x)⟩
/-- the tuple at a, each item in a new pair -/
def IteT (K : PySem.W.Frag) (a : Addr) : It :=
  ⟨fun i H => ∃ (xs : List V) (x : V), SqT K H a xs ∧ xs[i]? = some x, fun i H v H' => ∃ T x, v = .ref T ∧ H T = none ∧ H' = upd H T (.tup [.int (i : Nat), x]) ∧ ∀ xs, SqT K H a xs → xs[i]? = some x, fun i H => ∃ xs : List V, SqT K H a xs ∧ xs.length ≤ i⟩
theorem turn_enumT {P : Program} {w : World} {K : PySem.W.Frag} {elts : List Expr} {kk : Nat} {tpos : Pos} (a e it : Addr) :
    Turn P w K (.Tuple elts kk tpos) (IteT K a) [e, it] e (fun i h => (∃ old, IsEnum h e it ((i : Nat) : Int) old) ∧ h.IsTupleIter it a i ∧ e ≠ it) where
  mem := by simp
  obj := fun i h st b hb => by
    obtain ⟨⟨old, he⟩, ⟨o, ho, hc, hd⟩, _⟩ := st
    have e' : b = e ∨ b = it := by simpa using hb
    rcases e' with z | z
    · rw [z]; exact ⟨_, he, fun v q => nomatch q⟩
    · rw [z]; exact ⟨o, ho, fun v q => by rw [hd] at q; cases q⟩
  keep := fun i h h' st k => let ⟨⟨old, he⟩, hi, hne⟩ := st; ⟨⟨old, k e (by simp) _ he⟩, hi.at fun o q => k it (by simp) o q, hne⟩
  item := by
    intro X hP hw hK hc i pins s σ H E I hf st hg
    subst hP hw hK
    obtain ⟨⟨old, he⟩, hit, hne⟩ := st
    obtain ⟨xs, x, hq, hx⟩ := hg
    obtain ⟨its, rv, p, hz⟩ := I.tuple hq
    obtain ⟨u, hu, ru⟩ := rv.get hx
    have hel : e < s.heap.objs.size := Heap.lt_size he
    have hil : it < s.heap.objs.size := by obtain ⟨_, q, _⟩ := hit; exact Heap.lt_size q
    have hp : s.heap.IsTuple a its.toArray := p
    have hai : a ≠ it := fun z => by
      obtain ⟨o1, e1, c1, _⟩ := hit
      obtain ⟨o2, e2, c2, _⟩ := hp
      rw [z, e1] at e2; cases e2
      rw [c1] at c2; simp at c2
    have hae : a ≠ e := fun z => by
      obtain ⟨o2, e2, c2, _⟩ := hp
      rw [z] at e2
      have he' : s.heap.get? e = some _ := he
      rw [he'] at e2; cases e2
      simp at c2
    have hl : i < its.toArray.size := by
      have := (List.getElem?_eq_some_iff.mp hu).1
      simpa using this
    refine wpAny_pyNext_enum_itemD (Draws.tuple (A := X.A.in1) (I.ok.hd hc) it a hai its.toArray) he ⟨hit, hp⟩ hl hne (by simp only [List.mem_cons, List.not_mem_nil, or_false, not_or]; exact ⟨hne, fun z => hae z.symm⟩) fun u' h' tk hu' ho hit' hT hsz hk => ?_
    have eu : u' = u := by
      have : its.toArray[i]? = some u := by simpa using hu
      rw [this] at hu'; cases hu'; rfl
    subst eu
    refine ⟨_, rfl, wpAny_letOwnedTupleGo_enum (s := { s with heap := h', toks := tk + 1 }) ho fun h'' he' sb => ?_⟩
    have hT2 : h''.get? s.heap.objs.size = some { cls := .type "tuple", data := .seq #[.int i tk, u'] } := (sb.2 _ (Nat.ne_of_gt hel)).trans hT
    have new : ObjOk X.prog X.w (upd H s.heap.objs.size (.tup [.int (i : Nat), x])) h'' s.heap.objs.size (.tup [.int (i : Nat), x]) :=
      ⟨by show 2 ≤ sizeLine; decide, [.int i tk, u'], .cons ⟨_, rfl⟩ (.cons ru .nil), ⟨_, hT2, rfl, _, rfl⟩⟩
    have I1 : Inv X pins σ (upd H s.heap.objs.size (.tup [.int (i : Nat), x])) { s with heap := h'', toks := tk + 1 } :=
      I.turnedNew (ch := [e, it]) (fun b ob hb q => (sb.2 b (fun z => hb (by simp [z]))).trans (hk b ob (fun z => hb (by simp [z])) (fun z => hb (by simp [z])) q)) hf (Nat.le_refl _) new
    refine ⟨.ref s.heap.objs.size, _, I1, rfl, ⟨_, x, rfl, I.hok.fresh (Nat.le_refl _), rfl, fun ys hy => by rw [I.tuple_inj hy hq]; exact hx⟩, ⟨⟨u', ?_⟩, hit'.1.at fun o q => (sb.2 it (Ne.symm hne)).trans q, hne⟩, fun b hb => ?_⟩
    · have e1 : ((i + 1 : Nat) : Int) = (i : Int) + 1 := by omega
      rw [e1]; exact he'
    · have hb' : b < s.heap.objs.size := by
        have e' : b = e ∨ b = it := by simpa using hb
        rcases e' with z | z
        · rw [z]; exact hel
        · rw [z]; exact hil
      rw [upd_ne (Nat.ne_of_lt hb')]
      exact (hf b hb).1
  done := by
    intro X hP hw hK hc i pins s σ H E I hf st hg
    subst hP hw hK
    obtain ⟨⟨old, he⟩, hit, hne⟩ := st
    obtain ⟨xs, hq, hx⟩ := hg
    obtain ⟨its, rv, p, hz⟩ := I.tuple hq
    obtain ⟨f0, f1, f2, f3, f4, f5⟩ := hf it (by simp)
    have hl := rv.length
    have hp : s.heap.IsTuple a its.toArray := p
    have hT : s.TypeIs (.ref e) "enumerate" := ⟨_, he, rfl⟩
    unfold pyNext
    refine wpAny_bind (wpAny_attempt (wpAny_callSpecial?_slot (name := Str.ofString "__next__") hT F.slot_enumerate_next
      (wpAny_call_entry F.slot_enumerate_next hT F.entry_enumerate_next ?_ (F.args_enumerate_next_1 _))))
    show wpAny _ _ (field (.ref e) 2 >>= _) _ _ _
    refine wpAny_bind (wpAny_field he rfl (x := .ref it) rfl ?_)
    refine wpAny_bind (wpAny_nextOf_tuple_end (A := X.A.in1) (I.ok.hd hc) hit hp (by simp; omega) fun h' x he' hx' => ?_)
    obtain ⟨o, ho, hc'⟩ := hx'
    refine wpAny_bind (wpAny_isInstance (T := "StopIteration") (b := true) ⟨o, ho, hc'⟩ isSubtype_stop ?_)
    exact wpAny_pure ⟨rfl, I.turned (t' := s.toks) (fun b o hb q => he' b o hb q) f0 f1 f3 f4 f5⟩
  self := fun A i s Q E st h => let ⟨⟨_, he⟩, _⟩ := st; wpAny_pyIter_enum he h
def iEnumA (K : PySem.W.Frag) (ta : TA) : TI := fun σ H R => ta σ H fun vs H1 => ∃ a xs, vs = [.ref a] ∧ ((SqL K H1 a xs ∧ R (Ite K a) H1) ∨ (SqT K H1 a xs ∧ R (IteT K a) H1))
theorem pi_enumA {X : Cx} {e : Expr} {ta : TA} {p pos tpos : Pos} {elts : List Expr} {kk : Nat} (hg : Gl X "enumerate") (hm : X.mg "enumerate" = none) (ha : PA X [e] ta) (hs : starEach [e] X.env = [(false, PySem.eval e X.env)] := by rfl) :
    PI X (.Tuple elts kk tpos) (.Call (.Name "enumerate" p) [e] [] pos) (iEnumA X.K ta) := by
  refine ⟨fun pins s σ H R I h => ?_⟩
  refine Call_ (ld_blt I hg hm boot_enumerate (PyProof.Rows.callWith_type1 (thn (ha.run pos pins s σ H _ I h) fun us s1 ⟨vs, H1, I1, r1, q1⟩ => ?_) hs rfl))
  obtain ⟨a, xs, ex, q⟩ := q1
  subst ex
  cases r1 with
  | cons r rr =>
    cases rr
    cases r
    have fpo : ∀ b ∈ [s1.heap.objs.size + 1, s1.heap.objs.size], s1.heap.objs.size ≤ b := fun b hb => by
      have e' : b = s1.heap.objs.size + 1 ∨ b = s1.heap.objs.size := by simpa using hb
      rcases e' with z | z
      · rw [z]; exact Nat.le_add_right _ _
      · rw [z]; exact Nat.le_refl _
    rcases q with ⟨hq, q⟩ | ⟨hq, q⟩
    · obtain ⟨its, rv, p', hz⟩ := I1.list hq
      refine call_enumerate_list p'.isList fun h' he hit hsz hk => wpAny_pyIter_enum he ?_
      have I2 : Inv X pins σ H1 { s1 with heap := h' } := I1.kept (t' := s1.toks) hk
      exact ⟨s1.heap.objs.size + 1, [s1.heap.objs.size + 1, s1.heap.objs.size], _, _, H1, rfl, I2, turn_enum a (s1.heap.objs.size + 1) s1.heap.objs.size, ⟨⟨.none, he⟩, hit, Nat.succ_ne_self _⟩, fun b hb => I1.fpOk (fpo b hb) (I1.hok.fresh (fpo b hb)), q⟩
    · obtain ⟨its, rv, p', hz⟩ := I1.tuple hq
      refine call_enumT (show s1.heap.IsTuple a its.toArray from p') fun h' he hit hsz hk => wpAny_pyIter_enum he ?_
      have I2 : Inv X pins σ H1 { s1 with heap := h' } := I1.kept (t' := s1.toks) hk
      exact ⟨s1.heap.objs.size + 1, [s1.heap.objs.size + 1, s1.heap.objs.size], _, _, H1, rfl, I2, turn_enumT a (s1.heap.objs.size + 1) s1.heap.objs.size, ⟨⟨.none, he⟩, hit, Nat.succ_ne_self _⟩, fun b hb => I1.fpOk (fpo b hb) (I1.hok.fresh (fpo b hb)), q⟩
end Pi

set_option Elab.async false
set_option linter.all false
set_option maxRecDepth 100000
set_option maxHeartbeats 4000000
/-! PiJ: what is walked; comprehensions. -/
namespace Pi
open PySem PySem.Spec PyProof.Rows L2
variable [HasT]

/-- J yields the items, as long as the sources stand -/
def ItOk (K : PySem.W.Frag) (J : It) (vs : List V) (ds items : List D) : Prop := ∀ (F : Addr → Prop) (σ : Sg) (env : Env) (U : Addr → Prop) (H : Hp), Gd K F σ env U H → RepAll K U H vs ds →
  ∀ (i : Nat), (∀ d, items[i]? = some d → J.go i H ∧ ∀ x H', J.yld i H x H' → Post K F σ env U H σ env U H' ∧ Rep K U H' x d) ∧ (items[i]? = none → J.stop i H)
def rdI (B : Sx) (L : Lib) (k : ItK) (es : List E) : TI := fun σ H R => ∃ env U, Gd B.K B.F σ env U H ∧ Wp B σ env U H ((args L es env).bind (walkB k)) fun items env1 U1 H1 => ∀ J (vs : List V) (ds : List D), RepAll B.K U1 H1 vs ds → ItOk B.K J vs ds items → R J H1

section
variable {K : PySem.W.Frag} {F : Addr → Prop} {σ : Sg} {U : Addr → Prop} {H : Hp}
theorem peek_sh {env : Env} {i : Nat} {l : Bool} {d : D} (h : env[i]? = some (.ow l d)) (x : Arg) : x.peek (env.set i (.sh d)) = x.peek env := by
  cases x with
  | val d' => rfl
  | slot j =>
    simp only [Arg.peek]
    by_cases e : i = j
    · subst e
      have hi := (List.getElem?_eq_some_iff.mp h).1
      rw [List.getElem?_set_self hi, h]
    · rw [List.getElem?_set_ne e]
theorem peeks_sh {env : Env} {i : Nat} {l : Bool} {d : D} (h : env[i]? = some (.ow l d)) : ∀ xs : List Arg, peeks (env.set i (.sh d)) xs = peeks env xs
  | [] => rfl
  | x :: xs => by simp only [peeks]; rw [peek_sh h x, peeks_sh h xs]
/-- the sources are shared -/
theorem shares_ok : ∀ {xs : List Arg} {vs : List V} {ds : List D} {env : Env} {U : Addr → Prop}, Gd K F σ env U H → AOks K σ U H vs xs → peeks env xs = some ds →
    ∃ U2, Post K F σ env U H σ (shares xs env) U2 H ∧ RepAll K U2 H vs ds
  | [], _, ds, env, U, g, .nil, e => by
    simp only [peeks] at e; cases e
    exact ⟨U, .refl g, .nil⟩
  | .val d :: xs, _, ds, env, U, g, .cons (vs := vs) h t, e => by
    simp only [peeks, Arg.peek, Option.bind_some] at e
    cases q : peeks env xs with
    | none => rw [q] at e; cases e
    | some es =>
      rw [q] at e; cases e
      obtain ⟨U2, p, r⟩ := shares_ok g t q
      exact ⟨U2, by simpa only [shares] using p, .cons (p.rep g h) r⟩
  | .slot i :: xs, _, ds, env, U, g, .cons (v := v) (vs := vs) h t, e => by
    have h : σ[i]? = some (some v) := h
    simp only [peeks] at e
    cases hi : env[i]? with
    | none => simp [Arg.peek, hi] at e
    | some s =>
      cases s with
      | no => simp [Arg.peek, hi] at e
      | sh d =>
        simp only [Arg.peek, hi, Option.bind_some] at e
        cases q : peeks env xs with
        | none => rw [q] at e; cases e
        | some es =>
          rw [q] at e; cases e
          obtain ⟨U2, p, r⟩ := shares_ok g t q
          obtain ⟨v', e1, r1⟩ := g.sh i d hi
          rw [h] at e1; cases e1
          refine ⟨U2, ?_, .cons (p.rep g r1) r⟩
          simp only [shares, hi]
          exact p
      | ow l d =>
        simp only [Arg.peek, hi, Option.bind_some] at e
        cases q : peeks env xs with
        | none => rw [q] at e; cases e
        | some es =>
          rw [q] at e; cases e
          obtain ⟨a, e1, p1, r1⟩ := Post.share g hi
          rw [h] at e1; cases e1
          obtain ⟨U2, p, r⟩ := shares_ok p1.good (t.mono g p1) (by rw [peeks_sh hi]; exact q)
          refine ⟨U2, ?_, .cons (p.rep p1.good r1) r⟩
          simp only [shares, hi]
          exact p1.trans g p
theorem walkB_ok {B : Sx} {env : Env} {k : ItK} {xs : List Arg} {vs : List V} {P : List D → Env → (Addr → Prop) → Hp → Prop} (g : Gd B.K B.F σ env U H) (h : AOks B.K σ U H vs xs) (w : Wp B σ env U H (walkB k xs env) P) :
    ∃ ds items U2, peeks env xs = some ds ∧ iterD k ds = some items ∧ RepAll B.K U2 H vs ds ∧ P items (shares xs env) U2 H := by
  unfold walkB at w
  cases e : peeks env xs with
  | none => rw [e] at w; exact w.elim
  | some ds =>
    rw [e] at w
    simp only at w
    cases e2 : iterD k ds with
    | none => rw [e2] at w; exact w.elim
    | some items =>
      rw [e2] at w
      obtain ⟨U2, p, r⟩ := shares_ok g h e
      exact ⟨ds, items, U2, rfl, e2, r, w U2 H p⟩
theorem it_list {a : Addr} {ds : List D} : ItOk K (Itl K a) [.ref a] [.lst ds] ds := by
  intro F σ env U H g r i
  cases r with
  | cons r _ =>
    cases r with
    | @lst _ vs _ h1 hu h2 =>
      refine ⟨fun d e => ?_, fun e => ⟨vs, .inl h1, by rw [h2.length]; exact List.getElem?_eq_none_iff.mp e⟩⟩
      obtain ⟨v, e1, r1⟩ := h2.get e
      refine ⟨⟨vs, v, .inl h1, e1⟩, fun x H' ⟨e2, q⟩ => ?_⟩
      subst e2
      have := q vs (.inl h1)
      rw [e1] at this; cases this
      exact ⟨.refl g, r1⟩
theorem it_tup {a : Addr} {ds : List D} : ItOk K (Itt K a) [.ref a] [.tup ds] ds := by
  intro F σ env U H g r i
  cases r with
  | cons r _ =>
    cases r with
    | @tup _ vs _ h1 h2 =>
      refine ⟨fun d e => ?_, fun e => ⟨vs, h1, by rw [h2.length]; exact List.getElem?_eq_none_iff.mp e⟩⟩
      obtain ⟨v, e1, r1⟩ := h2.get e
      refine ⟨⟨vs, v, h1, e1⟩, fun x H' ⟨e2, q⟩ => ?_⟩
      subst e2
      have := q vs h1
      rw [e1] at this; cases this
      exact ⟨.refl g, r1⟩
theorem it_range {lo : Int} {n : Nat} : ItOk K (Itr lo n) [] [] (rangeD lo n) := by
  intro F σ env U H g r i
  have hi : (rangeD lo n)[i]? = if i < n then some (.int (lo + (i : Nat))) else none := by
    unfold rangeD
    rw [List.getElem?_map]
    by_cases h : i < n
    · rw [if_pos h, List.getElem?_range h]; rfl
    · rw [if_neg h, List.getElem?_eq_none (by simpa using h)]; rfl
  refine ⟨fun d e => ?_, fun e => ?_⟩
  · rw [hi] at e
    by_cases h : i < n
    · rw [if_pos h] at e
      cases e
      refine ⟨h, fun x H' ⟨e2, q⟩ => ?_⟩
      subst e2 q
      exact ⟨.refl g, .int _⟩
    · rw [if_neg h] at e; cases e
  · rw [hi] at e
    by_cases h : i < n
    · rw [if_pos h] at e; cases e
    · exact Nat.le_of_not_lt h
theorem it_enum {a : Addr} {ds : List D} : ItOk K (Ite K a) [.ref a] [.lst ds] ((List.range ds.length).zipWith (fun (k : Nat) x => D.tup [.int k, x]) ds) := by
  intro F σ env U H g r i
  cases r with
  | cons r _ =>
    cases r with
    | @lst _ vs _ h1 hu h2 =>
      have hi : ((List.range ds.length).zipWith (fun (k : Nat) x => D.tup [.int k, x]) ds)[i]? = (ds[i]?).map fun x => D.tup [.int (i : Nat), x] := by
        rw [List.getElem?_zipWith]
        by_cases h : i < ds.length
        · rw [List.getElem?_range h, List.getElem?_eq_getElem h]; rfl
        · rw [List.getElem?_eq_none (by simpa using h), List.getElem?_eq_none (Nat.le_of_not_lt h)]; rfl
      refine ⟨fun d e => ?_, fun e => ⟨vs, .inl h1, ?_⟩⟩
      · rw [hi] at e
        cases e3 : ds[i]? with
        | none => rw [e3] at e; cases e
        | some d0 =>
          rw [e3] at e; cases e
          obtain ⟨v, e1, r1⟩ := h2.get e3
          refine ⟨⟨vs, v, .inl h1, e1⟩, fun x H' ⟨T, x0, ex, hT, e2, q⟩ => ?_⟩
          have := q vs (.inl h1)
          rw [e1] at this; cases this
          subst ex e2
          exact new_tup g hT (.cons (.int _) (.cons r1 .nil))
      · rw [hi] at e
        rw [h2.length]
        cases e3 : ds[i]? with
        | none => exact List.getElem?_eq_none_iff.mp e3
        | some d0 => rw [e3] at e; cases e
theorem it_enumT {a : Addr} {ds : List D} : ItOk K (IteT K a) [.ref a] [.tup ds] ((List.range ds.length).zipWith (fun (k : Nat) x => D.tup [.int k, x]) ds) := by
  intro F σ env U H g r i
  cases r with
  | cons r _ =>
    cases r with
    | @tup _ vs _ h1 h2 =>
      have hi : ((List.range ds.length).zipWith (fun (k : Nat) x => D.tup [.int k, x]) ds)[i]? = (ds[i]?).map fun x => D.tup [.int (i : Nat), x] := by
        rw [List.getElem?_zipWith]
        by_cases h : i < ds.length
        · rw [List.getElem?_range h, List.getElem?_eq_getElem h]; rfl
        · rw [List.getElem?_eq_none (by simpa using h), List.getElem?_eq_none (Nat.le_of_not_lt h)]; rfl
      refine ⟨fun d e => ?_, fun e => ⟨vs, h1, ?_⟩⟩
      · rw [hi] at e
        cases e3 : ds[i]? with
        | none => rw [e3] at e; cases e
        | some d0 =>
          rw [e3] at e; cases e
          obtain ⟨v, e1, r1⟩ := h2.get e3
          refine ⟨⟨vs, v, h1, e1⟩, fun x H' ⟨T, x0, ex, hT, e2, q⟩ => ?_⟩
          have := q vs h1
          rw [e1] at this; cases this
          subst ex e2
          exact new_tup g hT (.cons (.int _) (.cons r1 .nil))
      · rw [hi] at e
        rw [h2.length]
        cases e3 : ds[i]? with
        | none => exact List.getElem?_eq_none_iff.mp e3
        | some d0 => rw [e3] at e; cases e
theorem it_zipT {a b : Addr} {ds es : List D} : ItOk K (RZ.ItzT K a b) [.ref a, .ref b] [.tup ds, .tup es] (List.zipWith (fun x y => D.tup [x, y]) ds es) := by
  intro F σ env U H g r i
  cases r with
  | cons r t =>
    cases t with
    | cons r' _ =>
      cases r with
      | @tup _ vs _ h1 h2 =>
        cases r' with
        | @tup _ ws _ h3 h4 =>
          refine ⟨fun d e => ?_, fun e => ⟨vs, ws, h1, h3, ?_⟩⟩
          · rw [List.getElem?_zipWith] at e
            cases e3 : ds[i]? with
            | none => rw [e3] at e; cases e
            | some d0 =>
              cases e4 : es[i]? with
              | none => rw [e3, e4] at e; cases e
              | some d1 =>
                rw [e3, e4] at e; cases e
                obtain ⟨v, e1, r1⟩ := h2.get e3
                obtain ⟨w, e2, r2⟩ := h4.get e4
                refine ⟨⟨vs, ws, v, w, h1, h3, e1, e2⟩, fun x H' ⟨T, x0, y0, ex, hT, eH, q, q2⟩ => ?_⟩
                have := q vs h1
                rw [e1] at this; cases this
                have := q2 ws h3
                rw [e2] at this; cases this
                subst ex eH
                exact new_tup g hT (.cons r1 (.cons r2 .nil))
          · rw [List.getElem?_zipWith] at e
            rw [h2.length, h4.length]
            cases e3 : ds[i]? with
            | none => exact .inl (List.getElem?_eq_none_iff.mp e3)
            | some d0 =>
              cases e4 : es[i]? with
              | none => exact .inr (List.getElem?_eq_none_iff.mp e4)
              | some d1 => rw [e3, e4] at e; cases e
theorem it_zip {a b : Addr} {ds es : List D} : ItOk K (Itz K a b) [.ref a, .ref b] [.lst ds, .lst es] (List.zipWith (fun x y => D.tup [x, y]) ds es) := by
  intro F σ env U H g r i
  cases r with
  | cons r t =>
    cases t with
    | cons r' _ =>
      cases r with
      | @lst _ vs _ h1 hu h2 =>
        cases r' with
        | @lst _ ws _ h3 hu' h4 =>
          refine ⟨fun d e => ?_, fun e => ⟨vs, ws, .inl h1, .inl h3, ?_⟩⟩
          · rw [List.getElem?_zipWith] at e
            cases e3 : ds[i]? with
            | none => rw [e3] at e; cases e
            | some d0 =>
              cases e4 : es[i]? with
              | none => rw [e3, e4] at e; cases e
              | some d1 =>
                rw [e3, e4] at e; cases e
                obtain ⟨v, e1, r1⟩ := h2.get e3
                obtain ⟨w, e2, r2⟩ := h4.get e4
                refine ⟨⟨vs, ws, v, w, .inl h1, .inl h3, e1, e2⟩, fun x H' ⟨T, x0, y0, ex, hT, eH, q, q2⟩ => ?_⟩
                have := q vs (.inl h1)
                rw [e1] at this; cases this
                have := q2 ws (.inl h3)
                rw [e2] at this; cases this
                subst ex eH
                exact new_tup g hT (.cons r1 (.cons r2 .nil))
          · rw [List.getElem?_zipWith] at e
            rw [h2.length, h4.length]
            cases e3 : ds[i]? with
            | none => exact .inl (List.getElem?_eq_none_iff.mp e3)
            | some d0 =>
              cases e4 : es[i]? with
              | none => exact .inr (List.getElem?_eq_none_iff.mp e4)
              | some d1 => rw [e3, e4] at e; cases e
end
section
variable {X : Cx} {B : Sx} {L : Lib} {tg a b : Expr} {a' b' : E} {p pos tpos : Pos}
theorem aoks1 {K σ U H vs x} (h : AOks K σ U H vs [x]) : ∃ v, vs = [v] ∧ AOk K σ U H v x := by
  cases h with | cons a b => cases b; exact ⟨_, rfl, a⟩
theorem snd_Iseq (hK : X.K = B.K) (ha : PE X a (rdA B L a')) : PI X tg a (rdI B L .seq [a']) := by
  refine ⟨fun pins s σ H R I ⟨env, U, g, h⟩ => ?_⟩
  simp only [args, Res.bind_assoc, Res.bind_ok] at h
  have h1 := Wp.bind g h
  -- what stands there, told by the interpreter
  cases hx : argOf a' (eval L a' env) env with
  | bad => rw [hx] at h; exact h.elim
  | ex x e1 =>
    refine (pi_list ha).run pins s σ H R I ⟨env, U, g, ?_⟩
    rw [hx] at h ⊢
    exact h
  | ok x env1 =>
    have h2 := h
    rw [hx] at h2
    simp only [Res.bind_ok] at h2
    cases e : peeks env1 [x] with
    | none => unfold walkB at h2; rw [e] at h2; exact h2.elim
    | some ds =>
      have hds : ∃ d, ds = [d] ∧ x.peek env1 = some d := by
        simp only [peeks] at e
        cases q : x.peek env1 with
        | none => rw [q] at e; cases e
        | some d => rw [q] at e; cases e; exact ⟨d, rfl, rfl⟩
      obtain ⟨d, rfl, ex⟩ := hds
      have kk : ∀ {U1 H1 v}, Post B.K B.F σ env U H σ env1 U1 H1 → AOk B.K σ U1 H1 v x → ∃ items U2, iterD .seq [d] = some items ∧ RepAll B.K U2 H1 [v] [d] ∧ ∀ J (vs : List V) (ds : List D), RepAll B.K U2 H1 vs ds → ItOk B.K J vs ds items → R J H1 := by
        intro U1 H1 v p1 ok1
        rw [hx] at h1
        have h3 := h1 U1 H1 p1
        obtain ⟨ds, items, U2, e1, e2, r, q⟩ := walkB_ok p1.good (.cons ok1 .nil) h3
        rw [e] at e1; cases e1
        exact ⟨items, U2, e2, r, q⟩
      cases d with
      | lst xs =>
        refine (pi_list ha).run pins s σ H R I ⟨env, U, g, ?_⟩
        rw [hx]
        intro U1 H1 p1 v ok1
        obtain ⟨items, U2, e2, r, q⟩ := kk p1 ok1
        simp only [iterD] at e2
        cases e2
        obtain ⟨a, ws, rfl, h4, h5⟩ := (p1.good.peek ok1 ex).lst
        exact ⟨a, rfl, ⟨ws, .inl h4⟩, hK ▸ q _ _ _ r it_list⟩
      | tup xs =>
        refine (pi_tup ha).run pins s σ H R I ⟨env, U, g, ?_⟩
        rw [hx]
        intro U1 H1 p1 v ok1
        obtain ⟨items, U2, e2, r, q⟩ := kk p1 ok1
        simp only [iterD] at e2
        cases e2
        obtain ⟨a, ws, rfl, h4, h5⟩ := (p1.good.peek ok1 ex).tup
        exact ⟨a, rfl, ⟨ws, hK ▸ h4⟩, hK ▸ q _ _ _ r it_tup⟩
      | _ => unfold walkB at h2; rw [e] at h2; exact h2.elim
theorem iter_args {k : ItK} {es' : List E} {σ : Sg} {H : Hp} {R : It → Hp → Prop} (h : rdI B L k es' σ H R) :
    rdAs B L es' σ H fun vs H1 => ∃ U2 ds items, RepAll B.K U2 H1 vs ds ∧ iterD k ds = some items ∧ ∀ J (vs : List V) (ds : List D), RepAll B.K U2 H1 vs ds → ItOk B.K J vs ds items → R J H1 := by
  obtain ⟨env, U, g, h⟩ := h
  refine ⟨env, U, g, (Wp.bind g h).imp fun xs env1 U1 H1 _ p1 h1 vs oks => ?_⟩
  obtain ⟨ds, items, U2, e1, e2, r, q⟩ := walkB_ok p1.good oks h1
  exact ⟨U2, ds, items, r, e2, q⟩
theorem snd_Irange1 (hg : Gl X "range") (hm : X.mg "range" = none) (ha : PA X [a] (rdAs B L [a'])) (hs : starEach [a] X.env = [(false, PySem.eval a X.env)]) : PI X tg (.Call (.Name "range" p) [a] [] pos) (rdI B L .range [a']) := by
  refine ⟨fun pins s σ H R I h => (pi_range1 hg hm ha hs).run pins s σ H R I ?_⟩
  obtain ⟨env, U, g, w⟩ := iter_args h
  refine ⟨env, U, g, w.imp fun xs env1 U1 H1 hx p1 h1 vs oks => ?_⟩
  obtain ⟨U2, ds, items, r, e, q⟩ := h1 vs oks
  have hl : ds.length = 1 := by rw [← r.length, oks.length, args_length _ _ _ _ hx]; rfl
  obtain ⟨d, rfl⟩ : ∃ d, ds = [d] := by
    cases ds with | nil => simp at hl | cons d t => cases t with | nil => exact ⟨d, rfl⟩ | cons _ _ => simp at hl
  cases d with
  | int n =>
    simp only [iterD] at e
    split at e
    · rename_i hr
      cases e
      cases r with
      | cons r t =>
        cases t
        cases r
        simp only [rngOk, Bool.and_eq_true, decide_eq_true_eq] at hr
        exact ⟨n, rfl, hr.1, hr.2, q _ [] [] .nil it_range⟩
    · cases e
  | _ => simp [iterD] at e
theorem snd_Irange2 (hg : Gl X "range") (hm : X.mg "range" = none) (ha : PA X [a, b] (rdAs B L [a', b'])) (hs : starEach [a, b] X.env = [(false, PySem.eval a X.env), (false, PySem.eval b X.env)]) (hs2 : starEach [b] X.env = [(false, PySem.eval b X.env)]) : PI X tg (.Call (.Name "range" p) [a, b] [] pos) (rdI B L .range [a', b']) := by
  refine ⟨fun pins s σ H R I h => (pi_range2 hg hm ha hs hs2).run pins s σ H R I ?_⟩
  obtain ⟨env, U, g, w⟩ := iter_args h
  refine ⟨env, U, g, w.imp fun xs env1 U1 H1 hx p1 h1 vs oks => ?_⟩
  obtain ⟨U2, ds, items, r, e, q⟩ := h1 vs oks
  have hl : ds.length = 2 := by rw [← r.length, oks.length, args_length _ _ _ _ hx]; rfl
  obtain ⟨d, d2, rfl⟩ : ∃ d d2, ds = [d, d2] := by
    rcases ds with _ | ⟨d, _ | ⟨d2, _ | ⟨d3, t⟩⟩⟩ <;> simp at hl
    exact ⟨d, d2, rfl⟩
  cases d <;> cases d2 <;> try (simp [iterD] at e)
  rename_i i j
  obtain ⟨hr, e⟩ := e
  subst e
  cases r with
  | cons r t =>
    cases t with
    | cons r' t =>
      cases t
      cases r
      cases r'
      simp only [rngOk, Bool.and_eq_true, decide_eq_true_eq] at hr
      exact ⟨i, j, rfl, ⟨hr.1.1, hr.1.2, hr.2.1, hr.2.2⟩, q _ [] [] .nil it_range⟩
variable {elts : List Expr} {kk : Nat}
theorem snd_Ienum (hK : X.K = B.K) (hg : Gl X "enumerate") (hm : X.mg "enumerate" = none) (ha : PA X [a] (rdAs B L [a'])) (hs : starEach [a] X.env = [(false, PySem.eval a X.env)]) : PI X (.Tuple elts kk tpos) (.Call (.Name "enumerate" p) [a] [] pos) (rdI B L .enum [a']) := by
  refine ⟨fun pins s σ H R I h => (pi_enumA hg hm ha hs).run pins s σ H R I ?_⟩
  obtain ⟨env, U, g, w⟩ := iter_args h
  refine ⟨env, U, g, w.imp fun xs env1 U1 H1 hx p1 h1 vs oks => ?_⟩
  obtain ⟨U2, ds, items, r, e, q⟩ := h1 vs oks
  have hl : ds.length = 1 := by rw [← r.length, oks.length, args_length _ _ _ _ hx]; rfl
  obtain ⟨d, rfl⟩ : ∃ d, ds = [d] := by
    cases ds with | nil => simp at hl | cons d t => cases t with | nil => exact ⟨d, rfl⟩ | cons _ _ => simp at hl
  cases d with
  | lst ys =>
    simp only [iterD] at e
    cases e
    cases r with
    | cons r t =>
      cases t
      have r0 := r
      cases r with
      | lst h1 hu h2 => exact ⟨_, _, rfl, .inl ⟨.inl h1, hK ▸ q _ _ _ (.cons r0 .nil) it_enum⟩⟩
  | tup ys =>
    simp only [iterD] at e
    cases e
    cases r with
    | cons r t =>
      cases t
      have r0 := r
      cases r with
      | tup h1 h2 => exact ⟨_, _, rfl, .inr ⟨hK ▸ h1, hK ▸ q _ _ _ (.cons r0 .nil) it_enumT⟩⟩
  | _ => simp [iterD] at e
theorem snd_Izip (hK : X.K = B.K) (hg : Gl X "zip") (hm : X.mg "zip" = none) (ha : PA X [a, b] (rdAs B L [a', b'])) (hs : starEach [a, b] X.env = (false, PySem.eval a X.env) :: starEach [b] X.env) (hpl : (backTo pos (starEach [b] X.env)).any (·.1) = false) : PI X (.Tuple elts kk tpos) (.Call (.Name "zip" p) [a, b] [] pos) (rdI B L .zip [a', b']) := by
  refine ⟨fun pins s σ H R I h => (RZ.pi_zipA hg hm ha hs hpl).run pins s σ H R I ?_⟩
  obtain ⟨env, U, g, w⟩ := iter_args h
  refine ⟨env, U, g, w.imp fun xs env1 U1 H1 hx p1 h1 vs oks => ?_⟩
  obtain ⟨U2, ds, items, r, e, q⟩ := h1 vs oks
  have hl : ds.length = 2 := by rw [← r.length, oks.length, args_length _ _ _ _ hx]; rfl
  obtain ⟨d, d2, rfl⟩ : ∃ d d2, ds = [d, d2] := by
    rcases ds with _ | ⟨d, _ | ⟨d2, _ | ⟨d3, t⟩⟩⟩ <;> simp at hl
    exact ⟨d, d2, rfl⟩
  cases d <;> cases d2 <;> try (simp [iterD] at e; done)
  · simp only [iterD] at e
    cases e
    cases r with
    | cons r t =>
      cases t with
      | cons r' t =>
        cases t
        have r0 := r
        have r0' := r'
        cases r with
        | tup h1 h2 =>
          cases r' with
          | tup h3 h4 => exact ⟨_, _, _, _, rfl, .inr ⟨hK ▸ h1, hK ▸ h3, hK ▸ q _ _ _ (.cons r0 (.cons r0' .nil)) it_zipT⟩⟩
  · simp only [iterD] at e
    cases e
    cases r with
    | cons r t =>
      cases t with
      | cons r' t =>
        cases t
        have r0 := r
        have r0' := r'
        cases r with
        | lst h1 hu h2 =>
          cases r' with
          | lst h3 hu' h4 => exact ⟨_, _, _, _, rfl, .inl ⟨.inl h1, .inl h3, hK ▸ q _ _ _ (.cons r0 (.cons r0' .nil)) it_zip⟩⟩
end
end Pi

set_option Elab.async false
set_option linter.all false
set_option maxRecDepth 100000
set_option maxHeartbeats 4000000
/-! PiK: comprehensions. -/
namespace Pi
open PySem PySem.Spec PyProof.Rows L2
variable [HasT]

section
variable {K : PySem.W.Frag} {F : Addr → Prop} {σ : Sg} {env : Env} {U : Addr → Prop} {H : Hp}
theorem Post.setNo {i : Nat} {o : Option V} (g : Gd K F σ env U H) : Post K F σ env U H (σ.set i o) (env.set i .no) U H := by
  have get : ∀ {j : Nat} {s : Sl}, s ≠ .no → (env.set i .no)[j]? = some s → i ≠ j ∧ env[j]? = some s ∧ (σ.set i o)[j]? = σ[j]? := fun {j s} hs h => by
    rcases get_set_ow h with ⟨e, q⟩ | ⟨n, q⟩
    · exact absurd q hs
    · exact ⟨n, q, by rw [List.getElem?_set_ne n]⟩
  refine ⟨Tr.refl _ _ _, ⟨by simpa using g.len, fun j d' h => ?_, fun j l d' h => ?_, fun j k l1 l2 d1 d2 b h1 h2 s1 s2 => ?_, g.live, g.frs, g.tab⟩, fun b ⟨j, l, d', h, s⟩ => ?_⟩
  · obtain ⟨n, q, e⟩ := get (by simp) h
    rw [e]; exact g.sh j d' q
  · obtain ⟨n, q, e⟩ := get (by simp) h
    rw [e]; exact g.ow j l d' q
  · obtain ⟨n1, q1, e1⟩ := get (by simp) h1
    obtain ⟨n2, q2, e2⟩ := get (by simp) h2
    rw [e1] at s1
    rw [e2] at s2
    exact g.inj j k _ _ _ _ b q1 q2 s1 s2
  · obtain ⟨n, q, e⟩ := get (by simp) h
    rw [e] at s
    exact .inl ⟨j, l, d', q, s⟩
theorem Post.wipe (g : Gd K F σ env U H) : ∀ vs : List Nat, Post K F σ env U H (wipe σ vs) (wipeE env vs) U H
  | [] => .refl g
  | v :: vs => by
    have p := Post.wipe g vs
    exact p.trans g (Post.setNo p.good)
theorem wipe_in : ∀ {vs : List Nat} {i : Nat} {σ : Sg}, i ∈ vs → i < σ.length → (L2.wipe σ vs)[i]? = some none
  | [], i, σ, h, _ => by simp at h
  | v :: vs, i, σ, h, hl => by
    unfold L2.wipe
    by_cases e : v = i
    · subst e
      rw [List.getElem?_set_self (by rw [wipe_length]; exact hl)]
    · rw [List.getElem?_set_ne e]
      exact wipe_in ((List.mem_cons.mp h).resolve_left (fun z => e z.symm)) hl
theorem wipe_eq {σ2 : Sg} {vs : List Nat} (hl : σ2.length = σ.length) (h : ∀ i, i ∉ vs → σ2[i]? = σ[i]?) : L2.wipe σ2 vs = L2.wipe σ vs := by
  apply List.ext_getElem?
  intro i
  by_cases hi : i ∈ vs
  · by_cases hlt : i < σ.length
    · rw [wipe_in hi hlt, wipe_in hi (by omega)]
    · rw [List.getElem?_eq_none (by rw [wipe_length]; omega), List.getElem?_eq_none (by rw [wipe_length]; omega)]
  · rw [wipe_out hi, wipe_out hi, h i hi]
theorem wipe_wipe {vs : List Nat} : L2.wipe (L2.wipe σ vs) vs = L2.wipe σ vs := wipe_eq (wipe_length _ _) fun i hi => wipe_out hi
theorem wipeE_get : ∀ {vs : List Nat} {i : Nat} {s : Sl} {env : Env}, s ≠ .no → (wipeE env vs)[i]? = some s → i ∉ vs ∧ env[i]? = some s
  | [], i, s, env, _, h => ⟨by simp, h⟩
  | v :: vs, i, s, env, hs, h => by
    unfold wipeE at h
    rcases get_set_ow h with ⟨e, q⟩ | ⟨n, q⟩
    · exact absurd q hs
    · obtain ⟨h1, h2⟩ := wipeE_get hs q
      exact ⟨by simp only [List.mem_cons, not_or]; exact ⟨fun z => n z.symm, h1⟩, h2⟩
theorem backE_get : ∀ {vs : List Nat} {i : Nat} {s : Sl} {old env : Env}, (backE old env vs)[i]? = some s → (i ∈ vs ∧ s = old.getD i .no) ∨ (i ∉ vs ∧ env[i]? = some s)
  | [], i, s, old, env, h => .inr ⟨by simp, h⟩
  | v :: vs, i, s, old, env, h => by
    unfold backE at h
    rcases get_set_ow h with ⟨e, q⟩ | ⟨n, q⟩
    · subst e
      exact .inl ⟨List.mem_cons_self, q⟩
    · rcases backE_get q with ⟨h1, h2⟩ | ⟨h1, h2⟩
      · exact .inl ⟨List.mem_cons_of_mem _ h1, h2⟩
      · exact .inr ⟨by simp only [List.mem_cons, not_or]; exact ⟨fun z => n z.symm, h1⟩, h2⟩
theorem backE_length : ∀ {vs : List Nat} {old env : Env}, (backE old env vs).length = env.length
  | [], _, _ => rfl
  | v :: vs, old, env => by unfold backE; rw [List.length_set, backE_length]
theorem getD_some {old : Env} {i : Nat} {s : Sl} (hs : s ≠ .no) (h : s = old.getD i .no) : old[i]? = some s := by
  rw [List.getD_eq_getElem?_getD] at h
  cases e : old[i]? with
  | none => rw [e] at h; exact absurd h hs
  | some x => rw [e] at h; simp at h; rw [h]
/-- behind a block: the own slots are as they were -/
theorem Post.unwipe {vs : List Nat} {envn : Env} {Un : Addr → Prop} {Hn : Hp} (g : Gd K F σ env U H) (p : Post K F (L2.wipe σ vs) (wipeE env vs) U H (L2.wipe σ vs) envn Un Hn) : Post K F σ env U H σ (backE env envn vs) Un Hn := by
  have gw : Gd K F (L2.wipe σ vs) (wipeE env vs) U H := (Post.wipe g vs).good
  have sub : ∀ b, Own (L2.wipe σ vs) (wipeE env vs) b → Own σ env b := fun b ⟨j, l, d, e, s⟩ => by
    obtain ⟨n, e'⟩ := wipeE_get (by simp) e
    rw [wipe_out n] at s
    exact ⟨j, l, d, e', s⟩
  have notOwn : ∀ i l d a, i ∈ vs → env[i]? = some (.ow l d) → σ[i]? = some (some (.ref a)) → ¬ Own (L2.wipe σ vs) (wipeE env vs) a := fun i l d a hi e s ⟨j, l', d', e', s'⟩ => by
    obtain ⟨n, e''⟩ := wipeE_get (by simp) e'
    rw [wipe_out n] at s'
    exact n (g.inj i j _ _ _ _ a e e'' s s' ▸ hi)
  have tr : Tr (Own σ env) U H Un Hn := ⟨fun b o e n t => p.tr.keep b o e (fun z => n (sub b z)) t, p.tr.tab, p.tr.live, p.tr.sub, fun b u n => p.tr.res b u fun z => n (sub b z)⟩
  have hn : ∀ a, H a ≠ none → ¬ Own (L2.wipe σ vs) (wipeE env vs) a → ¬ Own (L2.wipe σ vs) envn a := fun a h n z => by
    rcases p.own a z with y | y
    · exact n y
    · exact h y
  refine ⟨tr, ⟨by rw [backE_length, p.good.len, wipe_length], fun i d e => ?_, fun i l d e => ?_, fun i j l l' d d' a e1 e2 s1 s2 => ?_, p.good.live, p.good.frs, p.good.tab⟩, fun b ⟨i, l, d, e, s⟩ => ?_⟩
  · rcases backE_get e with ⟨hi, q⟩ | ⟨hi, q⟩
    · obtain ⟨v, e1, r⟩ := g.sh i d (getD_some (by simp) q)
      exact ⟨v, e1, p.rep gw r⟩
    · obtain ⟨v, e1, r⟩ := p.good.sh i d q
      rw [wipe_out hi] at e1
      exact ⟨v, e1, r⟩
  · rcases backE_get e with ⟨hi, q⟩ | ⟨hi, q⟩
    · have q' := getD_some (by simp) q
      obtain ⟨a, e1, u, o, f⟩ := g.ow i l d q'
      have n := notOwn i l d a hi q' e1
      exact ⟨a, e1, p.tr.res a u n, o.mono p.tr gw.hO n, f⟩
    · obtain ⟨a, e1, r⟩ := p.good.ow i l d q
      rw [wipe_out hi] at e1
      exact ⟨a, e1, r⟩
  · rcases backE_get e1 with ⟨hi, q1⟩ | ⟨hi, q1⟩
    · have q1' := getD_some (by simp) q1
      rcases backE_get e2 with ⟨hj, q2⟩ | ⟨hj, q2⟩
      · exact g.inj i j _ _ _ _ a q1' (getD_some (by simp) q2) s1 s2
      · obtain ⟨a', e1', u, o, _⟩ := g.ow i l d q1'
        rw [s1] at e1'; cases e1'
        exact absurd ⟨j, l', d', q2, by rw [wipe_out hj]; exact s2⟩ (hn a (g.live a u) (notOwn i l d a hi q1' s1))
    · rcases backE_get e2 with ⟨hj, q2⟩ | ⟨hj, q2⟩
      · have q2' := getD_some (by simp) q2
        obtain ⟨a', e1', u, o, _⟩ := g.ow j l' d' q2'
        rw [s2] at e1'; cases e1'
        exact absurd ⟨i, l, d, q1, by rw [wipe_out hi]; exact s1⟩ (hn a (g.live a u) (notOwn j l' d' a hj q2' s2))
      · exact p.good.inj i j _ _ _ _ a q1 q2 (by rw [wipe_out hi]; exact s1) (by rw [wipe_out hj]; exact s2)
  · rcases backE_get e with ⟨hi, q⟩ | ⟨hi, q⟩
    · exact .inl ⟨i, l, d, getD_some (by simp) q, s⟩
    · rcases p.own b ⟨i, l, d, q, by rw [wipe_out hi]; exact s⟩ with z | z
      · exact .inl (sub b z)
      · exact .inr z
/-- a list that no slot owns is written -/
theorem Post.poke {σ' : Sg} {env' : Env} {U' : Addr → Prop} {H' : Hp} {D : Addr} {acc acc' : List V} (p : Post K F σ env U H σ' env' U' H') (hn : H D = none) (u : U' D) (n : ¬ Own σ' env' D) (e : H' D = some (.lst acc)) :
    Post K F σ env U H σ' env' U' (upd H' D (.lst acc')) ∧ Tr (fun b => b = D) U' H' U' (upd H' D (.lst acc')) := by
  have t : Tr (fun b => b = D) U' H' U' (upd H' D (.lst acc')) := by
    refine ⟨fun b o h z _ => by rw [upd_ne z]; exact h, fun h => tabs_upd e h nt_lst, fun b h => ?_, fun b h => .inl h, fun b h _ => h⟩
    by_cases z : b = D
    · rw [z, upd_same]; simp
    · rw [upd_ne z]; exact h
  have hO : ∀ a, a = D → U' a ∧ ∃ xs, H' a = some (.lst xs) := fun a h => by subst h; exact ⟨u, _, e⟩
  refine ⟨⟨⟨fun b o h z nt => ?_, fun h => t.tab (p.tr.tab h), fun b h => t.live b (p.tr.live b h), p.tr.sub, p.tr.res⟩, ⟨p.good.len, fun i d h => ?_, fun i l d h => ?_, p.good.inj, fun b h => t.live b (p.good.live b h), fun b h => ?_, t.tab p.good.tab⟩, p.own⟩, t⟩
  · rw [upd_ne (fun y => by rw [y, hn] at h; cases h)]
    exact p.tr.keep b o h z nt
  · obtain ⟨v, e1, r⟩ := p.good.sh i d h
    exact ⟨v, e1, r.mono t hO⟩
  · obtain ⟨a, e1, u1, o, f⟩ := p.good.ow i l d h
    exact ⟨a, e1, u1, o.mono t hO (fun z => n (z ▸ ⟨i, l, d, h, e1⟩)), f⟩
  · refine p.good.frs b ?_
    by_cases z : b = D
    · rw [z, upd_same] at h; cases h
    · rwa [upd_ne z] at h
end

def Sx.quiet (B : Sx) : Sx := { B with W := fun _ _ _ _ => False }
def rdH (B : Sx) (L : Lib) (cs : List E) : TT := fun σ H Q => ∃ env U, Gd B.K B.F σ env U H ∧ Wp B σ env U H (holds L cs env) fun b _ _ H' => Q b H'
section
variable {X : Cx} {B : Sx} {L : Lib}
theorem snd_H0 : PTs X [] (rdH B L []) := ⟨fun pins s σ H Q I ⟨env, U, g, h⟩ => pts_nil.run pins s σ H Q I (by simp only [holds] at h; exact Wp.ok g h)⟩
theorem snd_H1 {c : Expr} {c' : E} (h : PT X c (rdT B L c')) : PTs X [c] (rdH B L [c']) := ⟨fun pins s σ H Q I ⟨env, U, g, w⟩ => (pts_one h).run pins s σ H Q I ⟨env, U, g, by
  have e : holds L [c'] env = (tst L c' env).bind fun k e => .ok k e := by
    simp only [holds, tst, Res.bind_assoc]
    congr 1
    funext x e1
    cases x.peek e1 with
    | none => rfl
    | some d => cases hd : d.truth <;> simp [hd]
  rw [e] at w
  exact (Wp.bind g w).imp fun k env1 U1 H1 _ p1 h1 => Wp.ok p1.good h1⟩⟩
variable {elt tg iter : Expr} {ifs : List Expr} {scope : Scope} {own : List (Str × Nat)} {pos : Pos} {tgt : Tg} {k : ItK} {es' conds' : List E} {elt' : E}
/-- the reading of a comprehension -/
theorem rd_lc (hsub : ∀ i ∈ tgt.slots, i ∈ own.map (·.2)) {σ : Sg} {H : Hp} {Q : VK} (h : rdE B L (.lc elt' (own.map (·.2)) tgt k es' conds') σ H Q) :
    tLc (rdI B L k es') (rdG B.quiet tgt) (rdH B.quiet L conds') (rdE B.quiet L elt') (own.map (·.2)) σ H Q := by
  generalize hvs : own.map (·.2) = vs at h hsub ⊢
  obtain ⟨env, U, g, h⟩ := h
  simp only [eval] at h
  refine ⟨env, U, g, (Wp.bind g h).imp fun items env1 U1 H1 _ p1 h1 J srcV srcD rsrc itok D hD => ?_⟩
  generalize hf : (fun (d : Pi.D) (e : Env) => (match tgt.store d false e with
            | none => (Res.bad : Res (Option Pi.D))
            | some e1 => (holds L conds' e1).bind fun b e2 => if b then (eval L elt' e2).bind fun r e3 => .ok (some r.1) (wipeE e3 vs) else .ok none (wipeE e2 vs))) = f at h1
  cases hloop : lcLoop f items (wipeE env1 vs) [] with
  | bad => rw [hloop] at h1; exact h1.elim
  | ex x e => rw [hloop] at h1; exact h1.elim
  | ok dsf envf =>
    rw [hloop] at h1
    have gw := (Post.wipe p1.good vs)
    -- the block's state
    let St := fun (i : Nat) (H : Hp) => ∃ envi Ui acc accD, Post B.K B.F (L2.wipe σ vs) (wipeE env1 vs) U1 H1 (L2.wipe σ vs) envi Ui H ∧ Ui D ∧ ¬ Own (L2.wipe σ vs) envi D ∧ H D = some (.lst acc) ∧ RepAll B.K Ui H acc accD ∧
      lcLoop f (items.drop i) envi accD = .ok dsf envf ∧ acc.length = accD.length
    refine ⟨fun i m H => m = items.length - i ∧ i ≤ items.length ∧ St i H, ⟨items.length, by simp, Nat.zero_le _, ?_⟩, ?_⟩
    · obtain ⟨q, r⟩ := new_lst (vs := []) (ds := []) gw.good hD .nil
      obtain ⟨a, ea, u, o, n, _⟩ := r
      cases ea
      obtain ⟨ws, e, r2⟩ := o
      rw [upd_same] at e
      cases e
      exact ⟨wipeE env1 vs, _, [], [], q, u, n, upd_same, .nil, by simpa using hloop, rfl⟩
    · rintro i m H ⟨rfl, hi, envi, Ui, acc, accD, P, uD, nD, eD, rD, loop, hlen⟩
      have src : RepAll B.K Ui H srcV srcD := P.reps gw.good rsrc
      obtain ⟨it1, it2⟩ := itok B.F (L2.wipe σ vs) envi Ui H P.good src i
      cases hit : items[i]? with
      | none =>
        refine .inl ⟨it2 hit, ?_⟩
        have hd : items.drop i = [] := List.drop_eq_nil_of_le (List.getElem?_eq_none_iff.mp hit)
        rw [hd] at loop
        simp only [lcLoop] at loop
        cases loop
        refine h1 Ui H (Post.unwipe p1.good P) (.ref D) ⟨D, rfl, uD, ⟨acc, eD, rD⟩, fun ⟨j, l, d, e, s⟩ => ?_, ?_⟩
        · rcases backE_get e with ⟨hj, q⟩ | ⟨hj, q⟩
          · obtain ⟨_, xs, z⟩ := p1.good.hO D ⟨j, l, d, getD_some (by simp) q, s⟩
            rw [hD] at z; cases z
          · exact nD ⟨j, l, d, q, by rw [wipe_out hj]; exact s⟩
        · exact p1.back D hD
      | some d =>
        have hlt : i < items.length := (List.getElem?_eq_some_iff.mp hit).1
        have hd : items.drop i = d :: items.drop (i + 1) := by
          rw [List.drop_eq_getElem_cons hlt]
          congr 1
          exact (List.getElem?_eq_some_iff.mp hit).2
        rw [hd] at loop
        simp only [lcLoop] at loop
        obtain ⟨go, yl⟩ := it1 d hit
        refine .inr ⟨go, fun H' => St (i + 1) H', fun H' s' => ⟨items.length - (i + 1), by omega, rfl, hlt, s'⟩, fun x H5 y5 => ?_⟩
        obtain ⟨p5, r5⟩ := yl x H5 y5
        -- what the interpreter does with the item
        cases hfd : f d envi with
        | bad => rw [hfd] at loop; cases loop
        | ex x e => rw [hfd] at loop; cases loop
        | ok o envi' =>
          rw [hfd] at loop
          simp only [Res.bind_ok] at loop
          rw [← hf] at hfd
          simp only at hfd
          cases hst : tgt.store d false envi with
          | none => rw [hst] at hfd; cases hfd
          | some e1 =>
            rw [hst] at hfd
            simp only at hfd
            have uD5 : Ui D := uD
            have P5 := P.trans gw.good p5
            have eD5 : H5 D = some (.lst acc) := p5.tr.keep _ _ eD nD nt_lst
            have rD5 := p5.reps P.good rD
            refine ⟨envi, Ui, d, e1, p5.good, r5, hst, fun σ2 p6 ag => ⟨?_, ?_⟩⟩
            · rw [wipe_eq (σ := L2.wipe σ vs) (by rw [← p6.good.len, ← p5.good.len]; exact (storeLen hst)) fun j hj => ag j fun z => hj (hsub j z), wipe_wipe]
            · have hw2 : L2.wipe σ2 vs = L2.wipe σ vs := by
                rw [wipe_eq (σ := L2.wipe σ vs) (by rw [← p6.good.len, ← p5.good.len]; exact (storeLen hst)) fun j hj => ag j fun z => hj (hsub j z), wipe_wipe]
              have nD6 : ¬ Own σ2 e1 D := fun z => by
                rcases p6.own D z with y | y
                · exact Own.wo_post p5 P.good nD uD y
                · rw [eD5] at y; cases y
              cases hh : holds L conds' e1 with
              | bad => rw [hh] at hfd; cases hfd
              | ex x e => rw [hh] at hfd; cases hfd
              | ok b e2 =>
                rw [hh] at hfd
                simp only [Res.bind_ok] at hfd
                refine ⟨e1, Ui, p6.good, ?_⟩
                rw [hh]
                intro U7 H7 p7
                have P7 := (P5.trans gw.good p6).trans gw.good p7
                have nD7 : ¬ Own σ2 e2 D := Own.wo_post p7 p6.good nD6 uD
                have uD7 : U7 D := p7.tr.res D uD nD6
                have eD7 : H7 D = some (.lst acc) := p7.tr.keep _ _ eD5 nD6 nt_lst
                have rD7 := p7.reps p6.good rD5
                cases b with
                | false =>
                  simp only [Bool.false_eq_true, if_false] at hfd ⊢
                  cases hfd
                  have p8 := Post.wipe p7.good vs
                  rw [hw2] at p8
                  refine ⟨wipeE e2 vs, U7, acc, accD, P7.trans gw.good p8, uD7, fun z => ?_, eD7, rD7, loop, hlen⟩
                  exact Own.wo_post p8 p7.good nD7 uD7 z
                | true =>
                  simp only [if_true] at hfd ⊢
                  cases he : eval L elt' e2 with
                  | bad => rw [he] at hfd; cases hfd
                  | ex x e => rw [he] at hfd; cases hfd
                  | ok r e3 =>
                    rw [he] at hfd
                    simp only [Res.bind_ok] at hfd
                    cases hfd
                    simp only at loop
                    split at loop
                    · rename_i hsz
                      refine ⟨e2, U7, p7.good, ?_⟩
                      rw [he]
                      intro U8 H8 p8 v vr
                      obtain ⟨U9, p9, r9⟩ := VRep.drop p7.good p8 vr
                      have nD9 : ¬ Own σ2 e3 D := Own.wo_post p9 p7.good nD7 uD7
                      have uD9 : U9 D := p9.tr.res D uD7 nD7
                      have eD9 : H8 D = some (.lst acc) := p9.tr.keep _ _ eD7 nD7 nt_lst
                      have rD9 := p9.reps p7.good rD7
                      have p10 := Post.wipe p9.good vs
                      rw [hw2] at p10
                      have P10 := (P7.trans gw.good p9).trans gw.good p10
                      have nD10 : ¬ Own (L2.wipe σ vs) (wipeE e3 vs) D := Own.wo_post p10 p9.good nD9 uD9
                      obtain ⟨P11, t11⟩ := Post.poke (acc' := acc ++ [v]) P10 hD uD9 nD10 eD9
                      have hO : ∀ a, a = D → U9 a ∧ ∃ xs, H8 a = some (.lst xs) := fun a h => by subst h; exact ⟨uD9, _, eD9⟩
                      refine ⟨acc, eD9, by rw [hlen]; exact Nat.lt_of_lt_of_le hsz line100, wipeE e3 vs, U9, acc ++ [v], accD ++ [r.1], P11, uD9, nD10, upd_same, (rD9.append (.cons r9 .nil)).mono t11 hO, loop, by simp [hlen]⟩
                    · cases loop
where
  storeLen {tgt : Tg} {d : D} {e e1 : Env} (h : tgt.store d false e = some e1) : e1.length = e.length := by
    have aux : ∀ (is : List Nat) (ds : List D) (e e1 : Env), storeT is ds e = some e1 → e1.length = e.length := by
      intro is
      induction is with
      | nil => intro ds e e1 h; cases ds with | nil => simp [storeT] at h; rw [h] | cons _ _ => simp [storeT] at h
      | cons i is ih =>
        intro ds e e1 h
        cases ds with
        | nil => simp [storeT] at h
        | cons d ds =>
          simp only [storeT] at h
          split at h
          · rw [ih _ _ _ h, List.length_set]
          · cases h
    cases tgt with
    | name i =>
      simp only [Tg.store] at h
      split at h
      · cases h; simp
      · cases h
    | tup is =>
      cases d <;> simp only [Tg.store] at h <;> first | exact aux _ _ _ _ h | cases h
theorem snd_lc (hc : X.calm = true) (hN : X.N.Nodup) (hi : PI X tg iter (rdI B L k es')) (ok : BlkOk X.N X.env.scope scope own) (hsub : ∀ i ∈ tgt.slots, i ∈ own.map (·.2))
    (hg : ∀ (s : Shared) (H : Hp) (C : Addr) (cl : List (Str × Addr)) (fp : List Addr), PG (X.blk s H scope (compEnvC scope cl C X.env) fp) tg (rdG B.quiet tgt))
    (ht : ∀ (s : Shared) (H : Hp) (C : Addr) (cl : List (Str × Addr)) (fp : List Addr), PTs (X.blk s H scope (compEnvC scope cl C X.env) fp) ifs (rdH B.quiet L conds'))
    (he : ∀ (s : Shared) (H : Hp) (C : Addr) (cl : List (Str × Addr)) (fp : List Addr), PE (X.blk s H scope (compEnvC scope cl C X.env) fp) elt (rdE B.quiet L elt'))
    (hs : ∀ x, foldedSetIterable iter X.env x = pure x) :
    PE X (.ListComp elt [⟨tg, iter, ifs, 0⟩] scope pos) (rdE B L (.lc elt' (own.map (·.2)) tgt k es' conds')) :=
  (pe_lc hc hN hi ok hg ht he hs).imp fun σ H Q h => rd_lc hsub h
end
section
variable {X : Cx} {B : Sx} {L : Lib} {a b : Expr} {a' b' : E} {pos p : Pos}
theorem reps_rg {K : PySem.W.Frag} {U : Addr → Prop} {H : Hp} (lo : Int) (n : Nat) : RepAll K U H ((List.range n).map fun i => V.int (lo + (i : Nat))) (rangeD lo n) := by
  unfold rangeD
  generalize List.range n = l
  induction l with
  | nil => exact .nil
  | cons x r ih => exact .cons (.int _) ih
theorem rngOk_iff {i : Int} (h : rngOk i = true) : -(2 ^ 62) ≤ i ∧ i < 2 ^ 62 := by
  unfold rngOk at h
  rw [Bool.and_eq_true] at h
  exact ⟨of_decide_eq_true h.1, of_decide_eq_true h.2⟩
theorem rg_len (lo : Int) (n : Nat) : (rangeD lo n).length = n := by unfold rangeD; rw [List.length_map, List.length_range]
/-- behind the arguments of a range -/
theorem rng_end {t : Bool} {σ : Sg} {env : Env} {U : Addr → Prop} {H H0 : Hp} {i j : Int} {ds : List D} {Q : VK} (g : Gd B.K B.F σ env U H) (hb : ∀ b, H b = none → H0 b = none) (hi : rngOk i = true) (hj : rngOk j = true) (e : iterD .range ds = some (rangeD i (j - i).toNat))
    (h : Wp B σ env U H (pureR ((iterD .range ds).bind fun items => if items.length ≤ 100000 then some (if t then (.tup items, false) else (.lst items, true)) else none) env) fun x env' U' H' => ∀ v, VRep B.K σ env' U' H' H0 v x.1 x.2 → Q v H') :
    RgOk i j ∧ ∀ q, H q = none → Q (.ref q) (upd H q (if t then .tup (rgV i j) else .lst (rgV i j))) := by
  obtain ⟨r, e1, h⟩ := h.pure
  rw [e, Option.bind_some] at e1
  split at e1
  · rename_i hl
    rw [rg_len] at hl
    cases e1
    refine ⟨⟨(rngOk_iff hi).1, (rngOk_iff hi).2, (rngOk_iff hj).1, (rngOk_iff hj).2, Nat.le_trans hl (by decide)⟩, fun q hq => ?_⟩
    have r : RepAll B.K U H (rgV i j) (rangeD i (j - i).toNat) := reps_rg i _
    cases t with
    | true =>
      obtain ⟨k, r2⟩ := new_tup g hq r
      exact (h _ _ k) _ r2
    | false =>
      obtain ⟨k, r2⟩ := new_lst g hq r
      exact (h _ _ k) _ (r2.start hb)
  · cases e1
def rngT (t : Bool) (te : L2.St → Hp → (Int → Int → Hp → Prop) → Prop) : TE := fun σ H Q => te σ H fun a b H1 => RgOk a b ∧ ∀ q, H1 q = none → Q (.ref q) (upd H1 q (if t then .tup (rgV a b) else .lst (rgV a b)))
theorem rd_rng1 {t : Bool} {σ : Sg} {H : Hp} {Q : VK} (h : rdE B L (.rng t [a']) σ H Q) : rngT t (tRg1 (rdE B L a')) σ H Q := by
  obtain ⟨env, U, g, h⟩ := h
  simp only [eval, evals, Res.bind_assoc, Res.bind_ok] at h
  refine ⟨env, U, g, (rep_bind g h).imp fun x env1 U1 H1 hr1 p1 h1 v vr => ?_⟩
  obtain ⟨U2, p2, r2, h2⟩ := h1 v vr
  obtain ⟨x, fr⟩ := x
  cases x <;> try (exact h2.elim)
  rename_i n
  by_cases hn : rngOk n = true
  · refine ⟨n, (Pk.sh r2).int, ?_⟩
    exact rng_end (ds := [.int n]) p2.good p2.back (by decide) hn (by simp [iterD, hn]) h2
  · simp only [iterD, if_neg hn, Option.bind_none, pureR_none] at h2
    exact h2.elim
theorem rd_rng2 {t : Bool} {σ : Sg} {H : Hp} {Q : VK} (h : rdE B L (.rng t [a', b']) σ H Q) : rngT t (tRg2 (rdE B L a') (rdE B L b')) σ H Q := by
  obtain ⟨env, U, g, h⟩ := h
  simp only [eval, evals, Res.bind_assoc, Res.bind_ok] at h
  refine ⟨env, U, g, (rep_bind g h).imp fun x env1 U1 H1 hr1 p1 h1 v vr => ?_⟩
  obtain ⟨U2, p2, r2, h2⟩ := h1 v vr
  refine ⟨env1, U2, p2.good, (rep_bind p2.good h2).imp fun y env3 U3 H3 hr3 p3 h3 w wr => ?_⟩
  obtain ⟨U4, p4, r4, h4⟩ := h3 w wr
  obtain ⟨x, fr⟩ := x
  obtain ⟨y, fr2⟩ := y
  cases x <;> try (exact h4.elim)
  rename_i i
  cases y <;> try (exact h4.elim)
  rename_i j
  by_cases hn : (rngOk i && rngOk j) = true
  · refine ⟨i, j, (Pk.sh r2).int, (Pk.sh r4).int, ?_⟩
    have hn' := hn
    rw [Bool.and_eq_true] at hn'
    exact rng_end (ds := [.int i, .int j]) p4.good (fun b e => p2.back b (p4.back b e)) hn'.1 hn'.2 (by simp [iterD, hn']) h4
  · simp only [iterD, if_neg hn, Option.bind_none, pureR_none] at h4
    exact h4.elim
theorem snd_rngT {e : Expr} {te : L2.St → Hp → (Int → Int → Hp → Prop) → Prop} {t : Bool} (x : Str) (hx : x = if t then ("tuple" : Str) else ("list" : Str)) (hc : X.calm = true) (hg : Gl X x) (hm : X.mg x = none) (he : PRg X e te) (na : starEach [e] X.env = (false, PySem.eval e X.env) :: starEach [] X.env) :
    PE X (.Call (.Name x p) [e] [] pos) (rngT t te) := by
  cases t with
  | true => subst hx; exact (pe_tupRg hc hg hm he na).imp fun σ H Q h => h
  | false => subst hx; exact (pe_listRg hc hg hm he na).imp fun σ H Q h => h
end
end Pi

set_option Elab.async false
set_option linter.all false
set_option maxRecDepth 100000
set_option maxHeartbeats 4000000
/-! PiKa: list comprehensions of two clauses. -/
namespace Pi
open PySem PySem.Spec PyProof.Rows L2
variable [HasT]

section
variable {X : Cx} {B : Sx} {L : Lib}
variable {elt tg iter tg1 iter1 : Expr} {ifs ifs1 : List Expr} {scope : Scope} {own : List (Str × Nat)} {pos : Pos} {tgt tgt1 : Tg} {k k1 : ItK} {es' conds' es1' conds1' : List E} {elt' : E}
theorem wipe_sub {σ σ2 : L2.St} {vs vs1 : List Nat} (hsub : ∀ i ∈ vs1, i ∈ vs) (h : L2.wipe σ2 vs = L2.wipe σ vs) : L2.wipe (L2.wipe σ2 vs1) vs = L2.wipe σ vs := by
  rw [← h]
  have hl : (L2.wipe σ2 vs1).length = σ2.length := wipe_length _ _
  rw [wipe_eq (σ := σ2) (vs := vs) hl fun j hj => by rw [wipe_out (fun z => hj (hsub j z))]]
/-- the reading of a comprehension of two clauses -/
theorem rd_lc2 (hsub : ∀ i ∈ tgt.slots, i ∈ own.map (·.2)) (hsub1 : ∀ i ∈ tgt1.slots, i ∈ own.map (·.2)) {σ : Sg} {H : Hp} {Q : VK} (h : rdE B L (.lc2 elt' (own.map (·.2)) tgt k es' conds' tgt1 k1 es1' conds1') σ H Q) :
    tLc2 (rdI B L k es') (rdG B.quiet tgt) (rdH B.quiet L conds') (rdI B.quiet L k1 es1') (rdG B.quiet tgt1) (rdH B.quiet L conds1') (rdE B.quiet L elt') (own.map (·.2)) tgt1.slots σ H Q := by
  generalize hvs : own.map (·.2) = vs at h hsub hsub1 ⊢
  obtain ⟨env, U, g, h⟩ := h
  simp only [eval] at h
  refine ⟨env, U, g, (Wp.bind g h).imp fun items env1 U1 H1 _ p1 h1 J srcV srcD rsrc itok D hD => ?_⟩
  generalize hf1 : (fun (d : Pi.D) (e : Env) => (match tgt1.store d false e with
            | none => (Res.bad : Res (Option Pi.D))
            | some e1 => (holds L conds1' e1).bind fun b e2 => if b then (eval L elt' e2).bind fun r e3 => .ok (some r.1) (wipeE e3 tgt1.slots) else .ok none (wipeE e2 tgt1.slots))) = f1 at h1
  generalize hf : (fun (d : Pi.D) (e : Env) (acc : List Pi.D) => (match tgt.store d false e with
            | none => (Res.bad : Res (List Pi.D))
            | some e1 => (holds L conds' e1).bind fun b e2 => if b then
                ((args L es1' e2).bind (walkB k1)).bind fun items1 e3 => (lcLoop f1 items1 (wipeE e3 tgt1.slots) acc).bind fun acc' e4 => .ok acc' (wipeE e4 vs)
              else .ok acc (wipeE e2 vs))) = f at h1
  cases hloop : lcLoop2 f items (wipeE env1 vs) [] with
  | bad => rw [hloop] at h1; exact h1.elim
  | ex x e => rw [hloop] at h1; exact h1.elim
  | ok dsf envf =>
    rw [hloop] at h1
    have gw := (Post.wipe p1.good vs)
    let St := fun (i : Nat) (H : Hp) => ∃ envi Ui acc accD, Post B.K B.F (L2.wipe σ vs) (wipeE env1 vs) U1 H1 (L2.wipe σ vs) envi Ui H ∧ Ui D ∧ ¬ Own (L2.wipe σ vs) envi D ∧ H D = some (.lst acc) ∧ RepAll B.K Ui H acc accD ∧
      lcLoop2 f (items.drop i) envi accD = .ok dsf envf ∧ acc.length = accD.length
    refine ⟨fun i m H => m = items.length - i ∧ i ≤ items.length ∧ St i H, ⟨items.length, by simp, Nat.zero_le _, ?_⟩, ?_⟩
    · obtain ⟨q, r⟩ := new_lst (vs := []) (ds := []) gw.good hD .nil
      obtain ⟨a, ea, u, o, n, _⟩ := r
      cases ea
      obtain ⟨ws, e, r2⟩ := o
      rw [upd_same] at e
      cases e
      exact ⟨wipeE env1 vs, _, [], [], q, u, n, upd_same, .nil, by simpa using hloop, rfl⟩
    · rintro i m H ⟨rfl, hi, envi, Ui, acc, accD, P, uD, nD, eD, rD, loop, hlen⟩
      have src : RepAll B.K Ui H srcV srcD := P.reps gw.good rsrc
      obtain ⟨it1, it2⟩ := itok B.F (L2.wipe σ vs) envi Ui H P.good src i
      cases hit : items[i]? with
      | none =>
        refine .inl ⟨it2 hit, ?_⟩
        have hd : items.drop i = [] := List.drop_eq_nil_of_le (List.getElem?_eq_none_iff.mp hit)
        rw [hd] at loop
        simp only [lcLoop2] at loop
        cases loop
        refine h1 Ui H (Post.unwipe p1.good P) (.ref D) ⟨D, rfl, uD, ⟨acc, eD, rD⟩, fun ⟨j, l, d, e, s⟩ => ?_, ?_⟩
        · rcases backE_get e with ⟨hj, q⟩ | ⟨hj, q⟩
          · obtain ⟨_, xs, z⟩ := p1.good.hO D ⟨j, l, d, getD_some (by simp) q, s⟩
            rw [hD] at z; cases z
          · exact nD ⟨j, l, d, q, by rw [wipe_out hj]; exact s⟩
        · exact p1.back D hD
      | some d =>
        have hlt : i < items.length := (List.getElem?_eq_some_iff.mp hit).1
        have hd : items.drop i = d :: items.drop (i + 1) := by
          rw [List.drop_eq_getElem_cons hlt]
          congr 1
          exact (List.getElem?_eq_some_iff.mp hit).2
        rw [hd] at loop
        simp only [lcLoop2] at loop
        obtain ⟨go, yl⟩ := it1 d hit
        refine .inr ⟨go, fun H' => St (i + 1) H', fun H' s' => ⟨items.length - (i + 1), by omega, rfl, hlt, s'⟩, fun x H5 y5 => ?_⟩
        obtain ⟨p5, r5⟩ := yl x H5 y5
        cases hfd : f d envi accD with
        | bad => rw [hfd] at loop; cases loop
        | ex x e => rw [hfd] at loop; cases loop
        | ok accF envi' =>
          rw [hfd] at loop
          simp only [Res.bind_ok] at loop
          rw [← hf] at hfd
          simp only at hfd
          cases hst : tgt.store d false envi with
          | none => rw [hst] at hfd; cases hfd
          | some e1 =>
            rw [hst] at hfd
            simp only at hfd
            have P5 := P.trans gw.good p5
            have eD5 : H5 D = some (.lst acc) := p5.tr.keep _ _ eD nD nt_lst
            have rD5 := p5.reps P.good rD
            refine ⟨envi, Ui, d, e1, p5.good, r5, hst, fun σ2 p6 ag => ?_⟩
            have hw2 : L2.wipe σ2 vs = L2.wipe σ vs := by
              rw [wipe_eq (σ := L2.wipe σ vs) (by rw [← p6.good.len, ← p5.good.len]; exact (rd_lc.storeLen hst)) fun j hj => ag j fun z => hj (hsub j z), wipe_wipe]
            refine ⟨hw2, ?_⟩
            have nD6 : ¬ Own σ2 e1 D := fun z => by
              rcases p6.own D z with y | y
              · exact Own.wo_post p5 P.good nD uD y
              · rw [eD5] at y; cases y
            cases hh : holds L conds' e1 with
            | bad => rw [hh] at hfd; cases hfd
            | ex x e => rw [hh] at hfd; cases hfd
            | ok b e2 =>
              rw [hh] at hfd
              simp only [Res.bind_ok] at hfd
              refine ⟨e1, Ui, p6.good, ?_⟩
              rw [hh]
              intro U7 H7 p7
              have P7 := (P5.trans gw.good p6).trans gw.good p7
              have nD7 : ¬ Own σ2 e2 D := Own.wo_post p7 p6.good nD6 uD
              have uD7 : U7 D := p7.tr.res D uD nD6
              have eD7 : H7 D = some (.lst acc) := p7.tr.keep _ _ eD5 nD6 nt_lst
              have rD7 := p7.reps p6.good rD5
              cases b with
              | false =>
                simp only [Bool.false_eq_true, if_false] at hfd ⊢
                cases hfd
                have p8 := Post.wipe p7.good vs
                rw [hw2] at p8
                refine ⟨wipeE e2 vs, U7, acc, accD, P7.trans gw.good p8, uD7, fun z => ?_, eD7, rD7, loop, hlen⟩
                exact Own.wo_post p8 p7.good nD7 uD7 z
              | true =>
                simp only [if_true] at hfd ⊢
                refine ⟨e2, U7, p7.good, ?_⟩
                cases ha : (args L es1' e2).bind (walkB k1) with
                | bad => rw [ha] at hfd; cases hfd
                | ex x e => rw [ha] at hfd; cases hfd
                | ok items1 e3 =>
                  rw [ha] at hfd
                  simp only [Res.bind_ok] at hfd
                  intro U8 H8 p8 J1 srcV1 srcD1 rsrc1 itok1
                  have P8 := P7.trans gw.good p8
                  have nD8 : ¬ Own σ2 e3 D := Own.wo_post p8 p7.good nD7 uD7
                  have uD8 : U8 D := p8.tr.res D uD7 nD7
                  have eD8 : H8 D = some (.lst acc) := p8.tr.keep _ _ eD7 nD7 nt_lst
                  have rD8 := p8.reps p7.good rD7
                  have pw := Post.wipe p8.good tgt1.slots
                  cases hl1 : lcLoop f1 items1 (wipeE e3 tgt1.slots) accD with
                  | bad => rw [hl1] at hfd; cases hfd
                  | ex x e => rw [hl1] at hfd; cases hfd
                  | ok accF2 e4 =>
                    rw [hl1] at hfd
                    simp only [Res.bind_ok] at hfd
                    cases hfd
                    let St1 := fun (j : Nat) (H : Hp) => ∃ envj Uj acc accD, Post B.K B.F (L2.wipe σ vs) (wipeE env1 vs) U1 H1 (L2.wipe σ2 tgt1.slots) envj Uj H ∧ Uj D ∧ ¬ Own (L2.wipe σ2 tgt1.slots) envj D ∧ H D = some (.lst acc) ∧ RepAll B.K Uj H acc accD ∧
                      RepAll B.K Uj H srcV1 srcD1 ∧ lcLoop f1 (items1.drop j) envj accD = .ok accF e4 ∧ acc.length = accD.length
                    refine ⟨fun j m H => m = items1.length - j ∧ j ≤ items1.length ∧ St1 j H, ⟨items1.length, by simp, Nat.zero_le _, wipeE e3 tgt1.slots, U8, acc, accD, P8.trans gw.good pw, uD8, Own.wo_post pw p8.good nD8 uD8, eD8, rD8, pw.reps p8.good rsrc1, by simpa using hl1, hlen⟩, ?_⟩
                    rintro j m H ⟨rfl, hj, envj, Uj, acc, accD, PJ, uDj, nDj, eDj, rDj, srcj, loopj, hlenj⟩
                    obtain ⟨jt1, jt2⟩ := itok1 B.F (L2.wipe σ2 tgt1.slots) envj Uj H PJ.good srcj j
                    cases hjt : items1[j]? with
                    | none =>
                      refine .inl ⟨jt2 hjt, ?_⟩
                      have hd : items1.drop j = [] := List.drop_eq_nil_of_le (List.getElem?_eq_none_iff.mp hjt)
                      rw [hd] at loopj
                      simp only [lcLoop] at loopj
                      cases loopj
                      have p9 := Post.wipe PJ.good vs
                      rw [wipe_sub hsub1 hw2] at p9
                      exact ⟨wipeE e4 vs, Uj, acc, accF, PJ.trans gw.good p9, uDj, Own.wo_post p9 PJ.good nDj uDj, eDj, rDj, loop, hlenj⟩
                    | some d1 =>
                      have hltj : j < items1.length := (List.getElem?_eq_some_iff.mp hjt).1
                      have hd : items1.drop j = d1 :: items1.drop (j + 1) := by
                        rw [List.drop_eq_getElem_cons hltj]
                        congr 1
                        exact (List.getElem?_eq_some_iff.mp hjt).2
                      rw [hd] at loopj
                      simp only [lcLoop] at loopj
                      obtain ⟨goj, ylj⟩ := jt1 d1 hjt
                      refine .inr ⟨goj, fun H' => St1 (j + 1) H', fun H' s' => ⟨items1.length - (j + 1), by omega, rfl, hltj, s'⟩, fun x1 H9 y9 => ?_⟩
                      obtain ⟨p9, r9⟩ := ylj x1 H9 y9
                      cases hfd1 : f1 d1 envj with
                      | bad => rw [hfd1] at loopj; cases loopj
                      | ex x e => rw [hfd1] at loopj; cases loopj
                      | ok o envj' =>
                        rw [hfd1] at loopj
                        simp only [Res.bind_ok] at loopj
                        rw [← hf1] at hfd1
                        simp only at hfd1
                        cases hst1 : tgt1.store d1 false envj with
                        | none => rw [hst1] at hfd1; cases hfd1
                        | some e5 =>
                          rw [hst1] at hfd1
                          simp only at hfd1
                          have P9 := PJ.trans gw.good p9
                          have eD9 : H9 D = some (.lst acc) := p9.tr.keep _ _ eDj nDj nt_lst
                          have rD9 := p9.reps PJ.good rDj
                          have src9 := p9.reps PJ.good srcj
                          refine ⟨envj, Uj, d1, e5, p9.good, r9, hst1, fun σ3 p10 ag1 => ?_⟩
                          have hw3 : L2.wipe σ3 tgt1.slots = L2.wipe σ2 tgt1.slots := by
                            rw [wipe_eq (σ := L2.wipe σ2 tgt1.slots) (by rw [← p10.good.len, ← p9.good.len]; exact (rd_lc.storeLen hst1)) fun j hj => ag1 j hj, wipe_wipe]
                          refine ⟨hw3, ?_⟩
                          have nD10 : ¬ Own σ3 e5 D := fun z => by
                            rcases p10.own D z with y | y
                            · exact Own.wo_post p9 PJ.good nDj uDj y
                            · rw [eD9] at y; cases y
                          have src10 := p10.reps p9.good src9
                          have rD10 := p10.reps p9.good rD9
                          cases hh1 : holds L conds1' e5 with
                          | bad => rw [hh1] at hfd1; cases hfd1
                          | ex x e => rw [hh1] at hfd1; cases hfd1
                          | ok b1 e6 =>
                            rw [hh1] at hfd1
                            simp only [Res.bind_ok] at hfd1
                            refine ⟨e5, Uj, p10.good, ?_⟩
                            rw [hh1]
                            intro U11 H11 p11
                            have P11 := (P9.trans gw.good p10).trans gw.good p11
                            have nD11 : ¬ Own σ3 e6 D := Own.wo_post p11 p10.good nD10 uDj
                            have uD11 : U11 D := p11.tr.res D uDj nD10
                            have eD11 : H11 D = some (.lst acc) := p11.tr.keep _ _ eD9 nD10 nt_lst
                            have rD11 := p11.reps p10.good rD10
                            have src11 := p11.reps p10.good src10
                            cases b1 with
                            | false =>
                              simp only [Bool.false_eq_true, if_false] at hfd1 ⊢
                              cases hfd1
                              have p12 := Post.wipe p11.good tgt1.slots
                              rw [hw3] at p12
                              exact ⟨wipeE e6 tgt1.slots, U11, acc, accD, P11.trans gw.good p12, uD11, Own.wo_post p12 p11.good nD11 uD11, eD11, rD11, p12.reps p11.good src11, loopj, hlenj⟩
                            | true =>
                              simp only [if_true] at hfd1 ⊢
                              cases he : eval L elt' e6 with
                              | bad => rw [he] at hfd1; cases hfd1
                              | ex x e => rw [he] at hfd1; cases hfd1
                              | ok r e7 =>
                                rw [he] at hfd1
                                simp only [Res.bind_ok] at hfd1
                                cases hfd1
                                simp only at loopj
                                split at loopj
                                · rename_i hsz
                                  refine ⟨e6, U11, p11.good, ?_⟩
                                  rw [he]
                                  intro U12 H12 p12 v vr
                                  obtain ⟨U13, p13, r13⟩ := VRep.drop p11.good p12 vr
                                  have nD13 : ¬ Own σ3 e7 D := Own.wo_post p13 p11.good nD11 uD11
                                  have uD13 : U13 D := p13.tr.res D uD11 nD11
                                  have eD13 : H12 D = some (.lst acc) := p13.tr.keep _ _ eD11 nD11 nt_lst
                                  have rD13 := p13.reps p11.good rD11
                                  have src13 := p13.reps p11.good src11
                                  have p14 := Post.wipe p13.good tgt1.slots
                                  rw [hw3] at p14
                                  have P14 := (P11.trans gw.good p13).trans gw.good p14
                                  have nD14 : ¬ Own (L2.wipe σ2 tgt1.slots) (wipeE e7 tgt1.slots) D := Own.wo_post p14 p13.good nD13 uD13
                                  obtain ⟨P15, t15⟩ := Post.poke (acc' := acc ++ [v]) P14 hD uD13 nD14 eD13
                                  have hO : ∀ a, a = D → U13 a ∧ ∃ xs, H12 a = some (.lst xs) := fun a h => by subst h; exact ⟨uD13, _, eD13⟩
                                  refine ⟨acc, eD13, by rw [hlenj]; exact Nat.lt_of_lt_of_le hsz line100, wipeE e7 tgt1.slots, U13, acc ++ [v], accD ++ [r.1], P15, uD13, nD14, upd_same, (rD13.append (.cons r13 .nil)).mono t15 hO, src13.mono t15 hO, loopj, by simp [hlenj]⟩
                                · cases loopj
theorem snd_lc2 (hc : X.calm = true) (hN : X.N.Nodup) (hi : PI X tg iter (rdI B L k es')) (ok : BlkOk X.N X.env.scope scope own) (hsub : ∀ i ∈ tgt.slots, i ∈ own.map (·.2)) (hsub1 : ∀ i ∈ tgt1.slots, i ∈ own.map (·.2))
    (hg : ∀ (s : Shared) (H : Hp) (C : Addr) (cl : List (Str × Addr)) (fp : List Addr), PG (X.blk s H scope (compEnvC scope cl C X.env) fp) tg (rdG B.quiet tgt))
    (ht : ∀ (s : Shared) (H : Hp) (C : Addr) (cl : List (Str × Addr)) (fp : List Addr), PTs (X.blk s H scope (compEnvC scope cl C X.env) fp) ifs (rdH B.quiet L conds'))
    (hi1 : ∀ (s : Shared) (H : Hp) (C : Addr) (cl : List (Str × Addr)) (fp : List Addr), PI (X.blk s H scope (compEnvC scope cl C X.env) fp) tg1 iter1 (rdI B.quiet L k1 es1'))
    (hg1 : ∀ (s : Shared) (H : Hp) (C : Addr) (cl : List (Str × Addr)) (fp : List Addr), PG (X.blk s H scope (compEnvC scope cl C X.env) fp) tg1 (rdG B.quiet tgt1))
    (ht1 : ∀ (s : Shared) (H : Hp) (C : Addr) (cl : List (Str × Addr)) (fp : List Addr), PTs (X.blk s H scope (compEnvC scope cl C X.env) fp) ifs1 (rdH B.quiet L conds1'))
    (he : ∀ (s : Shared) (H : Hp) (C : Addr) (cl : List (Str × Addr)) (fp : List Addr), PE (X.blk s H scope (compEnvC scope cl C X.env) fp) elt (rdE B.quiet L elt'))
    (hs : ∀ x, foldedSetIterable iter X.env x = pure x) (hs1 : ∀ env x, foldedSetIterable iter1 env x = pure x) :
    PE X (.ListComp elt [⟨tg, iter, ifs, 0⟩, ⟨tg1, iter1, ifs1, 0⟩] scope pos) (rdE B L (.lc2 elt' (own.map (·.2)) tgt k es' conds' tgt1 k1 es1' conds1')) :=
  (pe_lc2 hc hN hi ok hsub1 hg ht hi1 hg1 ht1 he hs hs1).imp fun σ H Q h => rd_lc2 hsub hsub1 h
end
end Pi

set_option Elab.async false
set_option linter.all false
set_option maxRecDepth 100000
set_option maxHeartbeats 4000000
/-! PiL: statements. -/
namespace Pi
open PySem PySem.Spec PyProof.Rows L2
variable [HasT]

structure PostS (B : Sx) (Z : List Nat) (σ : Sg) (env : Env) (U : Addr → Prop) (H : Hp) (σ' : Sg) (env' : Env) (U' : Addr → Prop) (H' : Hp) : Prop where
  post : Post B.K B.F σ env U H σ' env' U' H'
  fix : ∀ i, i ∉ Z → σ'[i]? = σ[i]?
def RVal (B : Sx) (U' : Addr → Prop) (H' : Hp) (v : V) (d : D) : Bool → Prop
  | false => Rep B.K U' H' v d
  | true => ∃ a, v = .ref a ∧ U' a ∧ OwnRep B.K U' H' a d ∧ B.F a
def WpS (B : Sx) (Z : List Nat) (σ : Sg) (env : Env) (U : Addr → Prop) (H : Hp) (r : Res Fl) (D : Ends) : Prop := match r with
  | .ok .nx env' => ∀ σ' U' H', PostS B Z σ env U H σ' env' U' H' → D.nx σ' H'
  | .ok .bk env' => ∀ σ' U' H', PostS B Z σ env U H σ' env' U' H' → D.bk σ' H'
  | .ok .ct env' => ∀ σ' U' H', PostS B Z σ env U H σ' env' U' H' → D.ct σ' H'
  | .ok (.rt d fr) env' => ∀ v σ' U' H', PostS B Z σ env U H σ' env' U' H' → RVal B U' H' v d fr → D.rt v H'
  | .ex x env' => ∀ σ' U' H' c dx, PostS B Z σ env U H σ' env' U' H' → B.XR x c dx U' H' → B.W c dx σ' H'
  | .bad => False
def rdS (B : Sx) (Z : List Nat) (L : Lib) (st : S) : TS := fun D σ H => ∃ env U, Gd B.K B.F σ env U H ∧ WpS B Z σ env U H (exec L st env) D
def rdSs (B : Sx) (Z : List Nat) (L : Lib) (st : List S) : TS := fun D σ H => ∃ env U, Gd B.K B.F σ env U H ∧ WpS B Z σ env U H (execs L st env) D
theorem _root_.L2.PS.imp {X : Cx} {e : Stmt} {t t' : TS} (h : PS X e t) (k : ∀ D σ H, t' D σ H → t D σ H) : PS X e t' := ⟨fun pins s σ H D I hw => h.run pins s σ H D I (k D σ H hw)⟩
theorem _root_.L2.PSs.imp {X : Cx} {e : List Stmt} {t t' : TS} (h : PSs X e t) (k : ∀ D σ H, t' D σ H → t D σ H) : PSs X e t' := ⟨fun pins s σ H D I hw => h.run pins s σ H D I (k D σ H hw)⟩
section
variable {B : Sx} {Z : List Nat} {L : Lib} {σ : Sg} {env : Env} {U : Addr → Prop} {H : Hp} {D : Ends}
theorem PostS.refl (g : Gd B.K B.F σ env U H) : PostS B Z σ env U H σ env U H := ⟨.refl g, fun _ _ => rfl⟩
theorem PostS.trans {σ1 env1 U1 H1 σ2 env2 U2 H2} (g : Gd B.K B.F σ env U H) (p : PostS B Z σ env U H σ1 env1 U1 H1) (q : PostS B Z σ1 env1 U1 H1 σ2 env2 U2 H2) : PostS B Z σ env U H σ2 env2 U2 H2 :=
  ⟨p.post.trans g q.post, fun i h => (q.fix i h).trans (p.fix i h)⟩
theorem WpS.next {σ1 env1 U1 H1} {r : Res Fl} (g : Gd B.K B.F σ env U H) (p : PostS B Z σ env U H σ1 env1 U1 H1) (h : WpS B Z σ env U H r D) : WpS B Z σ1 env1 U1 H1 r D := by
  cases r with
  | bad => exact h
  | ex x e => exact fun σ' U' H' c dx q => h σ' U' H' c dx (p.trans g q)
  | ok f e =>
    cases f with
    | nx => exact fun σ' U' H' q => h σ' U' H' (p.trans g q)
    | bk => exact fun σ' U' H' q => h σ' U' H' (p.trans g q)
    | ct => exact fun σ' U' H' q => h σ' U' H' (p.trans g q)
    | rt d fr => exact fun v σ' U' H' q => h v σ' U' H' (p.trans g q)
/-- an expression first -/
theorem WpS.expr {α : Type} {r : Res α} {f : α → Env → Res Fl} (g : Gd B.K B.F σ env U H) (h : WpS B Z σ env U H (r.bind f) D) : Wp B σ env U H r fun a env1 U1 H1 => WpS B Z σ env1 U1 H1 (f a env1) D := by
  cases r with
  | bad => exact h
  | ex x e => exact fun U' H' c dx p => h σ U' H' c dx ⟨p, fun _ _ => rfl⟩
  | ok a e => exact fun U' H' p => WpS.next g ⟨p, fun _ _ => rfl⟩ h
/-- an expression whose value is kept shared -/
theorem WpS.val {r : Res (Pi.D × Bool)} {f : Pi.D × Bool → Env → Res Fl} (g : Gd B.K B.F σ env U H) (h : WpS B Z σ env U H (r.bind f) D) :
    Wp B σ env U H r fun x env1 U1 H1 => ∀ v, VRep B.K σ env1 U1 H1 H v x.1 x.2 → ∃ U2, Gd B.K B.F σ env1 U2 H1 ∧ Post B.K B.F σ env U H σ env1 U2 H1 ∧ Rep B.K U2 H1 v x.1 ∧ WpS B Z σ env1 U2 H1 (f x env1) D := by
  cases r with
  | bad => exact h
  | ex x e => exact fun U' H' c dx p => h σ U' H' c dx ⟨p, fun _ _ => rfl⟩
  | ok a e =>
    intro U' H' p v vr
    obtain ⟨U2, p2, r2⟩ := VRep.drop g p vr
    exact ⟨U2, p2.good, p2, r2, WpS.next g ⟨p2, fun _ _ => rfl⟩ h⟩
theorem set_fix {Z : List Nat} {σ : Sg} {i : Nat} {o : Option V} (hz : i ∈ Z) : ∀ j, j ∉ Z → (σ.set i o)[j]? = σ[j]? := fun j hj => by
  have n : i ≠ j := fun z => hj (by rw [← z]; exact hz)
  rw [List.getElem?_set_ne n]
theorem storeT_sub : ∀ {is : List Nat} {ds : List Pi.D} {e e1 : Env} {i : Nat}, storeT is ds e = some e1 → i ∈ is → i < e.length
  | [], _, _, _, _, _, h => by simp at h
  | j :: is, [], e, e1, i, h, _ => by simp [storeT] at h
  | j :: is, d :: ds, e, e1, i, h, hi => by
    simp only [storeT] at h
    split at h
    · rename_i hj
      rcases List.mem_cons.mp hi with rfl | hi
      · exact hj
      · have := storeT_sub h hi
        simpa using this
    · cases h
end
section
variable {X : Cx} {B : Sx} {Z : List Nat} {L : Lib} {a b c e tg iter : Expr} {a' b' c' e' : E} {pos pos' : Pos} {st : Stmt} {sts : List Stmt} {s' : S} {ss' : List S}
theorem snd_nilS : PSs X [] (rdSs B Z L []) := pss_nil.imp fun D σ H ⟨env, U, g, h⟩ => by simp only [execs] at h; exact h σ U H (.refl g)
theorem snd_consS (h1 : PS X st (rdS B Z L s')) (h2 : PSs X sts (rdSs B Z L ss')) : PSs X (st :: sts) (rdSs B Z L (s' :: ss')) := by
  refine (pss_cons h1 h2).imp fun D σ H ⟨env, U, g, h⟩ => ?_
  simp only [execs] at h
  refine ⟨env, U, g, ?_⟩
  cases hr : exec L s' env with
  | bad => rw [hr] at h; exact h
  | ex x e1 => rw [hr] at h; exact h
  | ok f e1 =>
    rw [hr] at h
    simp only [Res.bind_ok] at h
    cases f with
    | nx => exact fun σ' U' H' p => ⟨e1, U', p.post.good, WpS.next g p h⟩
    | bk => exact h
    | ct => exact h
    | rt d fr => exact h
theorem snd_pass : PS X (.Pass pos) (rdS B Z L .pass) := ps_pass.imp fun D σ H ⟨env, U, g, h⟩ => by simp only [exec] at h; exact h σ U H (.refl g)
theorem snd_brk : PS X (.Break pos) (rdS B Z L .brk) := ps_break.imp fun D σ H ⟨env, U, g, h⟩ => by simp only [exec] at h; exact h σ U H (.refl g)
theorem snd_cnt : PS X (.Continue pos) (rdS B Z L .cnt) := ps_continue.imp fun D σ H ⟨env, U, g, h⟩ => by simp only [exec] at h; exact h σ U H (.refl g)
theorem snd_expr (he : PE X e (rdE B L e')) (hs : swapsWith e none pos.line X.env = pure false) : PS X (.Expr e pos) (rdS B Z L (.expr e')) := by
  refine (ps_expr he hs).imp fun D σ H ⟨env, U, g, h⟩ => ?_
  simp only [exec] at h
  refine ⟨env, U, g, (WpS.val g h).imp fun x env1 U1 H1 _ p1 h1 v vr => ?_⟩
  obtain ⟨U2, g2, p2, r2, w⟩ := h1 v vr
  exact w σ U2 H1 (.refl g2)
theorem snd_ret (hv : ∀ i, e' ≠ .var i) (he : PE X e (rdE B L e')) : PS X (.Return (some e) pos) (rdS B Z L (.ret e')) := by
  refine (ps_ret he).imp fun D σ H ⟨env, U, g, h⟩ => ?_
  have hx : exec L (.ret e') env = (eval L e' env).bind fun d env1 => .ok (.rt d.1 d.2) env1 := by
    cases e' <;> first | exact absurd rfl (hv _) | (simp only [exec])
  rw [hx] at h
  refine ⟨env, U, g, (WpS.expr g h).imp fun x env1 U1 H1 _ p1 h1 v vr => ?_⟩
  refine h1 v σ U1 H1 (.refl p1.good) ?_
  cases hb : x.2 with
  | false => rw [hb] at vr; exact vr
  | true =>
    rw [hb] at vr
    obtain ⟨a, ea, u, o, n, hn⟩ := vr
    exact ⟨a, ea, u, o, g.frs a hn⟩
theorem snd_retV {i : Nat} {x : Str} {p : Pos} (hN : X.N[i]? = some x) (hv : Vis X.env.scope x) (hd : (x == ("__debug__" : Str)) = false) (hcd : (x == ("__classdict__" : Str)) = false) : PS X (.Return (some (.Name x p)) pos) (rdS B Z L (.ret (.var i))) := by
  refine (ps_ret (pe_var (pos := p) hN hv hd hcd)).imp fun D σ H ⟨env, U, g, h⟩ => ?_
  simp only [exec] at h
  cases hi : env[i]? with
  | none => rw [hi] at h; exact h.elim
  | some s =>
    rw [hi] at h
    cases s with
    | no => exact h.elim
    | sh d =>
      obtain ⟨v, e1, r⟩ := g.sh i d hi
      exact ⟨v, e1, h v σ U H (.refl g) r⟩
    | ow l d =>
      cases l with
      | true =>
        obtain ⟨a, e1, p1, u, o, _, _, f⟩ := Post.take g hi
        exact ⟨.ref a, e1, h _ σ U H ⟨p1, fun _ _ => rfl⟩ ⟨a, rfl, u, o, f rfl⟩⟩
      | false =>
        obtain ⟨a, e1, p1, r⟩ := Post.share g hi
        exact ⟨.ref a, e1, h _ σ _ H ⟨p1, fun _ _ => rfl⟩ r⟩
theorem snd_retN : PS X (.Return none pos) (rdS B Z L .retN) := ps_retN.imp fun D σ H ⟨env, U, g, h⟩ => by simp only [exec] at h; exact h .non σ U H (.refl g) .non
theorem snd_if {p q : List Stmt} {p' q' : List S} (hc : PT X c (rdT B L c')) (ha : PSs X p (rdSs B Z L p')) (hb : PSs X q (rdSs B Z L q')) : PS X (.If c p q pos) (rdS B Z L (.ite c' p' q')) := by
  refine (ps_if hc ha hb).imp fun D σ H ⟨env, U, g, h⟩ => ?_
  have e1 : exec L (.ite c' p' q') env = (tst L c' env).bind fun k e => if k then execs L p' e else execs L q' e := by
    simp only [exec, tst, Res.bind_assoc]
    congr 1
    funext x e1
    cases x.peek e1 with
    | none => rfl
    | some d => rfl
  rw [e1] at h
  refine ⟨env, U, g, (WpS.expr g h).imp fun k env1 U1 H1 _ p1 h1 => ?_⟩
  cases k with
  | true => exact ⟨env1, U1, p1.good, h1⟩
  | false => exact ⟨env1, U1, p1.good, h1⟩
/-- name = value -/
theorem rd_set {i : Nat} (hz : i ∈ Z) {D : Ends} {σ : Sg} {H : Hp} (h : rdS B Z L (.asg (.name i) e') D σ H) : tAsg (rdE B L e') (gName i) D σ H := by
  obtain ⟨env, U, g, h⟩ := h
  simp only [exec] at h
  have fixZ : ∀ {σ0 : Sg} {o : Option V}, ∀ j, j ∉ Z → (σ0.set i o)[j]? = σ0[j]? := set_fix hz
  refine ⟨env, U, g, ?_⟩
  cases hr : eval L e' env with
  | bad => rw [hr] at h; exact h
  | ex x e1 => rw [hr] at h; exact fun U' H' c dx p => h σ U' H' c dx ⟨p, fun _ _ => rfl⟩
  | ok x e1 =>
    rw [hr] at h
    simp only [Res.bind_ok, Tg.store] at h
    intro U1 H1 p1 v vr
    split at h
    · rename_i hlt
      simp only [pureR_some, Res.bind_ok] at h
      cases hb : x.2 with
      | false =>
        rw [hb] at h vr
        simp only [Bool.false_eq_true, if_false] at h
        exact h _ U1 H1 ⟨p1.trans g (Post.store p1.good hlt vr), fixZ⟩
      | true =>
        rw [hb] at h vr
        simp only [if_true] at h
        obtain ⟨a, ea, u, o, n, hn⟩ := vr
        subst ea
        obtain ⟨g2, own2⟩ := Post.storeOw p1.good hlt u o n (g.frs a hn)
        refine h _ U1 H1 ⟨⟨p1.tr, g2, fun b z => ?_⟩, fixZ⟩
        rcases own2 b z with y | y
        · exact p1.own b y
        · subst y; exact .inr hn
    · exact h.elim
theorem snd_set {i : Nat} {x : Str} (hz : i ∈ Z) (hN : X.N.Nodup) (hi : X.N[i]? = some x) (hx : Loc X.env.scope x) (hf : X.fn x = true ∨ X.env.scope.names.lookup x = some .local) (he : PE X e (rdE B L e')) (hs : swapsWith e (some (.Name x pos')) pos.line X.env = pure false) :
    PS X (.Assign [.Name x pos'] e pos) (rdS B Z L (.asg (.name i) e')) := (ps_set hN hi hx he hs hf).imp fun D σ H h => rd_set hz h
/-- several names = a tuple or a list -/
theorem rd_gtup {is : List Nat} (hz : ∀ i ∈ is, i ∈ Z) {D : Ends} {σ : Sg} {H : Hp} (h : rdS B Z L (.asg (.tup is) e') D σ H) : tAsg (rdE B L e') (rdG B (.tup is)) D σ H := by
  obtain ⟨env, U, g, h⟩ := h
  simp only [exec] at h
  refine ⟨env, U, g, (WpS.val g h).imp fun x env1 U1 H1 _ p1 h1 v vr => ?_⟩
  obtain ⟨U2, g2, p2, r2, w⟩ := h1 v vr
  cases hst : Tg.store (.tup is) x.1 x.2 env1 with
  | none => rw [hst] at w; exact w.elim
  | some env2 =>
    rw [hst] at w
    simp only [pureR_some, Res.bind_ok] at w
    have hst' : Tg.store (.tup is) x.1 false env1 = some env2 := by
      cases hx : x.1 <;> rw [hx] at hst <;> simpa only [Tg.store] using hst
    exact ⟨env1, U2, x.1, env2, g2, r2, hst', fun σ' p3 ag => w σ' U2 H1 ⟨p3, fun j hj => ag j fun z => hj (hz j z)⟩⟩
theorem snd_unp {tes : List Expr} {is : List Nat} {k : Nat} {tpos : Pos} (hz : ∀ i ∈ is, i ∈ Z) (he : PE X e (rdE B L e')) (hg : PG X (.Tuple tes k tpos) (rdG B (.tup is))) (hw : swappedStores [.Tuple tes k tpos] e X.env = pure none) (hs : swapsWithSole [.Tuple tes k tpos] e pos.line X.env = pure false)
    (h1 : (assignEach [.Tuple tes k tpos] X.env).map (·.2) = [assign (.Tuple tes k tpos) X.env]) : PS X (.Assign [.Tuple tes k tpos] e pos) (rdS B Z L (.asg (.tup is) e')) :=
  (ps_asg he hg hs hw h1).imp fun D σ H h => rd_gtup hz h
/-- a, b = e1, e2 -/
theorem storeF_ok {K : PySem.W.Frag} {F : Addr → Prop} {σ0 : Sg} {env0 : Env} {U0 : Addr → Prop} {H0 : Hp} (g0 : Gd K F σ0 env0 U0 H0) {U : Addr → Prop} {H : Hp} : ∀ (is : List Nat) (ds : List (Pi.D × Bool)) (vs : List V) (σ : Sg) (env env2 : Env), (∀ i ∈ is, i ∈ Z) → Post K F σ0 env0 U0 H0 σ env U H → VReps K σ env U H H0 vs ds → storeF is ds env = some env2 →
      vs.length = is.length ∧ Post K F σ0 env0 U0 H0 ((is.zip vs).foldl (fun s p => s.set p.1 (some p.2)) σ) env2 U H ∧ ∀ j, j ∉ Z → ((is.zip vs).foldl (fun s p => s.set p.1 (some p.2)) σ)[j]? = σ[j]? := by
  intro is
  induction is with
  | nil =>
    intro ds vs σ env env2 _ p r e
    cases ds with
    | nil => cases r; simp only [storeF] at e; cases e; exact ⟨rfl, p, fun _ _ => rfl⟩
    | cons _ _ => simp [storeF] at e
  | cons i is ih =>
    intro ds vs σ env env2 hz p r e
    cases ds with
    | nil => simp [storeF] at e
    | cons x ds =>
      obtain ⟨d, fr⟩ := x
      simp only [storeF] at e
      split at e
      · rename_i hlt
        cases r with
        | @cons v vs _ _ r1 rs nd =>
          have fixZ : ∀ {o : Option V}, ∀ j, j ∉ Z → (σ.set i o)[j]? = σ[j]? := set_fix (hz i List.mem_cons_self)
          cases fr with
          | false =>
            simp only [Bool.false_eq_true, if_false] at e
            have p1 := Post.store p.good hlt r1
            have rs' := rs.map (σ' := σ.set i (some v)) (env' := env.set i (.sh d)) (U' := U) (H' := H) (H0' := H0) fun j w y _ _ q => by
              obtain ⟨dy, fy⟩ := y
              cases fy with
              | false => exact q
              | true =>
                obtain ⟨a, rfl, u, o, n, hn⟩ := q
                exact ⟨a, rfl, u, o, fun z => (p1.own a z).elim n fun y => p.good.live a u y, hn⟩
            obtain ⟨h1, h2, h3⟩ := ih ds vs _ _ env2 (fun j hj => hz j (List.mem_cons_of_mem _ hj)) (p.trans g0 p1) rs' e
            exact ⟨by simp [h1], h2, fun j hj => (h3 j hj).trans (fixZ j hj)⟩
          | true =>
            simp only [if_true] at e
            obtain ⟨a, rfl, u, o, n, hn⟩ := r1
            obtain ⟨g2, own2⟩ := Post.storeOw p.good hlt u o n (g0.frs a hn)
            have p1 : Post K F σ0 env0 U0 H0 (σ.set i (some (.ref a))) (env.set i (.ow true d)) U H := ⟨p.tr, g2, fun b z => by
              rcases own2 b z with y | y
              · exact p.own b y
              · subst y; exact .inr hn⟩
            have rs' := rs.map (σ' := σ.set i (some (.ref a))) (env' := env.set i (.ow true d)) (U' := U) (H' := H) (H0' := H0) fun j w y hw hy q => by
              obtain ⟨dy, fy⟩ := y
              cases fy with
              | false => exact q
              | true =>
                obtain ⟨c, rfl, u', o', n', hn'⟩ := q
                refine ⟨c, rfl, u', o', fun z => ?_, hn'⟩
                rcases own2 c z with y | y
                · exact n' y
                · subst y; exact nd rfl j dy hy hw
            obtain ⟨h1, h2, h3⟩ := ih ds vs _ _ env2 (fun j hj => hz j (List.mem_cons_of_mem _ hj)) p1 rs' e
            exact ⟨by simp [h1], h2, fun j hj => (h3 j hj).trans (fixZ j hj)⟩
      · cases e
theorem rd_par {is : List Nat} {es' : List E} (hz : ∀ i ∈ is, i ∈ Z) {D : Ends} {σ : Sg} {H : Hp} (h : rdS B Z L (.par is es') D σ H) :
    rdFs B L es' σ H fun vs H1 => vs.length = is.length ∧ D.nx ((is.zip vs).foldl (fun s p => s.set p.1 (some p.2)) σ) H1 := by
  obtain ⟨env, U, g, h⟩ := h
  simp only [exec] at h
  refine ⟨env, U, g, ?_⟩
  cases hr : evalsF L es' env with
  | bad => rw [hr] at h; exact h
  | ex x e1 => rw [hr] at h; exact fun U' H' c dx p => h σ U' H' c dx ⟨p, fun _ _ => rfl⟩
  | ok ds env1 =>
    rw [hr] at h
    simp only [Res.bind_ok] at h
    intro U1 H1 p1 vs reps
    cases hst : storeF is ds env1 with
    | none => rw [hst] at h; exact h.elim
    | some env2 =>
      rw [hst] at h
      simp only [pureR_some, Res.bind_ok] at h
      obtain ⟨q1, q2, q3⟩ := storeF_ok g is ds vs σ env1 env2 hz p1 reps hst
      exact ⟨q1, h _ U1 H1 ⟨q2, q3⟩⟩
/-- a tuple is made and taken apart -/
def rdGFs (B : Sx) (is : List Nat) : TGs := fun vs σ H Q => ∃ σ0 env0 U0 H0 env U ds env', Gd B.K B.F σ0 env0 U0 H0 ∧ Post B.K B.F σ0 env0 U0 H0 σ env U H ∧ VReps B.K σ env U H H0 vs ds ∧ storeF is ds env = some env' ∧
  ∀ σ' : Sg, Post B.K B.F σ0 env0 U0 H0 σ' env' U H → (∀ i, i ∉ is → σ'[i]? = σ[i]?) → Q σ' H
theorem snd_gsF (hN : X.N.Nodup) : ∀ {es : List Expr} {is : List Nat}, PNs X es is → PGs X es (rdGFs B is)
  | _, _, .nil => by
    refine ⟨fun pins s σ H vs us Q I r ⟨σ0, env0, U0, H0, env, U, ds, env', g, p, rep, e, h⟩ => ?_⟩
    cases ds with
    | nil =>
      cases rep
      simp only [storeF] at e
      cases e
      exact pgs_nil.run pins s σ H [] us Q I r ⟨rfl, h σ p fun _ _ => rfl⟩
    | cons d ds => simp [storeF] at e
  | _, _, .cons (i := i) (x := x) (pos := pos) (es := es) (is := is) hi hx hf t => by
    refine ⟨fun pins s σ H vs us Q I r ⟨σ0, env0, U0, H0, env, U, ds, env', g, p, rep, e, h⟩ => ?_⟩
    cases ds with
    | nil => simp [storeF] at e
    | cons d ds =>
      obtain ⟨d, fr⟩ := d
      cases rep with
      | @cons v vs _ _ r1 rs nd =>
        simp only [storeF] at e
        split at e
        · rename_i hlt
          have fin : ∀ {s0 : Sl}, Post B.K B.F σ0 env0 U0 H0 (σ.set i (some v)) (env.set i s0) U H → VReps B.K (σ.set i (some v)) (env.set i s0) U H H0 vs ds → storeF is ds (env.set i s0) = some env' → _ := fun {s0} p1 rs' e' =>
            (pgs_cons (pg_name (pos := pos) hN hi hx hf) (snd_gsF hN t) (by rfl)).run pins s σ H _ us Q I r ⟨v, vs, rfl, σ0, env0, U0, H0, env.set i s0, U, ds, env', g, p1, rs', e', fun σ' p2 ag => h σ' p2 fun j hj => by
              rw [ag j (fun z => hj (List.mem_cons_of_mem _ z)), List.getElem?_set_ne (fun z => hj (by simp [z]))]⟩
          cases fr with
          | false =>
            simp only [Bool.false_eq_true, if_false] at e
            have p1 := Post.store p.good hlt r1
            refine fin (p.trans g p1) (rs.map fun j w y _ _ q => ?_) e
            obtain ⟨dy, fy⟩ := y
            cases fy with
            | false => exact q
            | true =>
              obtain ⟨a, rfl, u, o, n, hn⟩ := q
              exact ⟨a, rfl, u, o, fun z => (p1.own a z).elim n fun y => p.good.live a u y, hn⟩
          | true =>
            simp only [if_true] at e
            obtain ⟨a, rfl, u, o, n, hn⟩ := r1
            obtain ⟨g2, own2⟩ := Post.storeOw p.good hlt u o n (g.frs a hn)
            refine fin ⟨p.tr, g2, fun b z => by
              rcases own2 b z with y | y
              · exact p.own b y
              · subst y; exact .inr hn⟩ (rs.map fun j w y hw hy q => ?_) e
            obtain ⟨dy, fy⟩ := y
            cases fy with
            | false => exact q
            | true =>
              obtain ⟨c, rfl, u', o', n', hn'⟩ := q
              refine ⟨c, rfl, u', o', fun z => ?_, hn'⟩
              rcases own2 c z with y | y
              · exact n' y
              · subst y; exact nd rfl j dy hy hw
        · cases e
theorem pns_len {es : List Expr} {is : List Nat} (hs : PNs X es is) : (assignEach es X.env).length = is.length := by
  induction hs with
  | nil => rfl
  | cons _ _ _ _ ih => show (_ :: assignEach _ _).length = _; rw [List.length_cons, ih]; rfl
theorem pns_st {es : List Expr} {is : List Nat} (hs : PNs X es is) : (assignEach es X.env).findIdx? (·.1) = none := by
  induction hs with
  | nil => rfl
  | cons _ _ _ _ ih =>
    show List.findIdx? (·.1) ((false, _) :: assignEach _ _) = none
    simp only [List.findIdx?_cons, ih]
    rfl
theorem evalsF_length : ∀ (es : List E) (env : Env) (ds : List (Pi.D × Bool)) (e1 : Env), evalsF L es env = .ok ds e1 → ds.length = es.length := by
  intro es
  induction es with
  | nil => intro env ds e1 h; simp only [evalsF] at h; cases h; rfl
  | cons a r ih =>
    intro env ds e1 h
    simp only [evalsF] at h
    cases ha : eval L a env with
    | bad => rw [ha] at h; cases h
    | ex x e => rw [ha] at h; cases h
    | ok x e =>
      rw [ha, Res.bind_ok] at h
      cases hb : evalsF L r e with
      | bad => rw [hb] at h; cases h
      | ex x e => rw [hb] at h; cases h
      | ok y e2 =>
        rw [hb, Res.bind_ok] at h
        cases h
        rw [List.length_cons, List.length_cons, ih _ _ _ hb]
theorem storeF_length : ∀ (is : List Nat) (ds : List (Pi.D × Bool)) (env env' : Env), storeF is ds env = some env' → ds.length = is.length := by
  intro is
  induction is with
  | nil => intro ds env env' e; cases ds with | nil => rfl | cons _ _ => simp [storeF] at e
  | cons i is ih =>
    intro ds env env' e
    cases ds with
    | nil => simp [storeF] at e
    | cons d ds =>
      obtain ⟨d, fr⟩ := d
      simp only [storeF] at e
      split at e
      · rw [List.length_cons, List.length_cons, ih _ _ _ e]
      · cases e
theorem snd_parT {tes es : List Expr} {is : List Nat} {es' : List E} {k k2 : Nat} {tpos vp : Pos} (hz : ∀ i ∈ is, i ∈ Z) (hK : X.K = B.K) (hc : X.calm = true) (hN : X.N.Nodup) (he : PA X es (rdFs B L es')) (hl : es'.length ≤ 1000) (hg : PNs X tes is)
    (hw : swappedStores [.Tuple tes k tpos] (.Tuple es k2 vp) X.env = pure none) (hs : swapsWithSole [.Tuple tes k tpos] (.Tuple es k2 vp) pos.line X.env = pure false)
    (h1 : (assignEach [.Tuple tes k tpos] X.env).map (·.2) = [assign (.Tuple tes k tpos) X.env]) : PS X (.Assign [.Tuple tes k tpos] (.Tuple es k2 vp) pos) (rdS B Z L (.par is es')) := by
  refine (ps_asg (pe_tup he) (pg_tup hc (snd_gsF (B := B) hN hg) (pns_len hg) (pns_st hg)) hs hw h1).imp fun D σ H h => ?_
  obtain ⟨env, U, g, h⟩ := h
  simp only [exec] at h
  refine ⟨env, U, g, ?_⟩
  cases hr : evalsF L es' env with
  | bad => rw [hr] at h; exact h
  | ex x e1 => rw [hr] at h; exact fun U' H' c dx p => h σ U' H' c dx ⟨p, fun _ _ => rfl⟩
  | ok ds env1 =>
    rw [hr] at h
    simp only [Res.bind_ok] at h
    intro U1 H1 p1 vs reps
    cases hst : storeF is ds env1 with
    | none => rw [hst] at h; exact h.elim
    | some env2 =>
      rw [hst] at h
      simp only [pureR_some, Res.bind_ok] at h
      refine ⟨?_, fun p hp => ?_⟩
      · rw [reps.length, evalsF_length _ _ _ _ hr]
        exact Nat.le_trans hl (Nat.le_trans (by decide) line100)
      · obtain ⟨p2, _⟩ := Post.new (o := .tup vs) p1.good hp
        refine ⟨p, vs, rfl, .inl (.inl upd_same), by rw [reps.length, storeF_length _ _ _ _ hst], σ, env, U, H, env1, U1, ds, env2, g, p1.trans g p2, reps.map fun j v x _ _ r => r.post p1.good p2, hst, fun σ' p3 ag => h σ' U1 _ ⟨p3, fun j hj => ag j fun z => hj (hz j z)⟩⟩
theorem snd_par2 {i j : Nat} {x y : Str} {px py pt pt2 : Pos} {kt k2 : Nat} (hz : ∀ k ∈ [i, j], k ∈ Z) (hc : X.calm = true) (hN : X.N.Nodup) (hi : X.N[i]? = some x) (hj : X.N[j]? = some y) (hij : i ≠ j) (hx : X.env.scope.names.lookup x = some .local) (hy : X.env.scope.names.lookup y = some .local)
    (ha : PA X [a, b] (rdFs B L [a', b'])) (hw : swappedStores [.Tuple [.Name x px, .Name y py] kt pt] (.Tuple [a, b] k2 pt2) X.env = pure (some [x, y])) (hs : swapsWithSole [.Tuple [.Name x px, .Name y py] kt pt] (.Tuple [a, b] k2 pt2) pos.line X.env = pure false) :
    PS X (.Assign [.Tuple [.Name x px, .Name y py] kt pt] (.Tuple [a, b] k2 pt2) pos) (rdS B Z L (.par [i, j] [a', b'])) := by
  refine (ps_par hc hN hi hj hij hx hy ha hw hs).imp fun D σ H h => ?_
  obtain ⟨env, U, g, w⟩ := rd_par hz h
  refine ⟨env, U, g, w.imp fun ds env1 U1 H1 _ p1 h1 vs reps => ?_⟩
  obtain ⟨hl, q⟩ := h1 vs reps
  rcases vs with _ | ⟨v, _ | ⟨w, _ | ⟨_, _⟩⟩⟩ <;> simp at hl
  exact ⟨v, w, rfl, q⟩
theorem snd_par3 {i j l : Nat} {x y z : Str} {px py pz pt pt2 : Pos} {kt k2 : Nat} (hz : ∀ k ∈ [i, j, l], k ∈ Z) (hc : X.calm = true) (hN : X.N.Nodup) (hi : X.N[i]? = some x) (hj : X.N[j]? = some y) (hl : X.N[l]? = some z) (hij : i ≠ j) (hil : i ≠ l) (hjl : j ≠ l)
    (hx : X.env.scope.names.lookup x = some .local) (hy : X.env.scope.names.lookup y = some .local) (hzz : X.env.scope.names.lookup z = some .local)
    (ha : PA X [a, b, c] (rdFs B L [a', b', c'])) (hw : swappedStores [.Tuple [.Name x px, .Name y py, .Name z pz] kt pt] (.Tuple [a, b, c] k2 pt2) X.env = pure (some [x, y, z])) (hs : swapsWithSole [.Tuple [.Name x px, .Name y py, .Name z pz] kt pt] (.Tuple [a, b, c] k2 pt2) pos.line X.env = pure false) :
    PS X (.Assign [.Tuple [.Name x px, .Name y py, .Name z pz] kt pt] (.Tuple [a, b, c] k2 pt2) pos) (rdS B Z L (.par [i, j, l] [a', b', c'])) := by
  refine (ps_par3 hc hN hi hj hl hij hil hjl hx hy hzz ha hw hs).imp fun D σ H h => ?_
  obtain ⟨env, U, g, w⟩ := rd_par hz h
  refine ⟨env, U, g, w.imp fun ds env1 U1 H1 _ p1 h1 vs reps => ?_⟩
  obtain ⟨hl, q⟩ := h1 vs reps
  rcases vs with _ | ⟨v, _ | ⟨w, _ | ⟨u, _ | ⟨_, _⟩⟩⟩⟩ <;> simp at hl
  exact ⟨v, w, u, rfl, q⟩
/-! lists that are written -/
theorem Post.write {K F σ env U H} {i : Nat} {l : Bool} {d : Pi.D} {ds : List Pi.D} {a : Addr} {vs : List V} (g : Gd K F σ env U H) (e : env[i]? = some (.ow l d)) (s : σ[i]? = some (some (.ref a))) (r : RepAll K U H vs ds) :
    Post K F σ env U H σ (env.set i (.ow l (.lst ds))) U (upd H a (.lst vs)) := by
  obtain ⟨a', e1, u, o, f⟩ := g.ow i l d e
  rw [s] at e1; cases e1
  have hown : Own σ env a := ⟨i, l, d, e, s⟩
  have hi : i < env.length := (List.getElem?_eq_some_iff.mp e).1
  have t : Tr (fun b => b = a) U H U (upd H a (.lst vs)) := by
    obtain ⟨xs0, eL⟩ := o.lst
    refine ⟨fun b o h z _ => by rw [upd_ne z]; exact h, fun h => tabs_upd eL h nt_lst, fun b h => ?_, fun b h => .inl h, fun b h _ => h⟩
    by_cases z : b = a
    · rw [z, upd_same]; simp
    · rw [upd_ne z]; exact h
  have hO : ∀ b, b = a → U b ∧ ∃ xs, H b = some (.lst xs) := fun b h => by subst h; exact ⟨u, o.lst⟩
  have get : ∀ {j : Nat} {s0 : Sl}, (env.set i (.ow l (.lst ds)))[j]? = some s0 → (i = j ∧ s0 = .ow l (.lst ds)) ∨ (i ≠ j ∧ env[j]? = some s0) := fun {j s0} h => get_set_ow h
  have same : ∀ b, Own σ (env.set i (.ow l (.lst ds))) b → Own σ env b := fun b ⟨j, l', d', h, s0⟩ => by
    rcases get h with ⟨rfl, q⟩ | ⟨n, q⟩
    · rw [s] at s0; cases s0; exact hown
    · exact ⟨j, l', d', q, s0⟩
  refine ⟨⟨fun b o h z nt => t.keep b o h (fun y => z (y ▸ hown)) nt, t.tab, t.live, fun b h => .inl h, fun b h _ => h⟩, ⟨by simpa using g.len, fun j d' h => ?_, fun j l' d' h => ?_, fun j k l1 l2 d1 d2 b h1 h2 s1 s2 => ?_, fun b h => t.live b (g.live b h), fun b h => ?_, t.tab g.tab⟩, fun b h => .inl (same b h)⟩
  · rcases get h with ⟨_, q⟩ | ⟨n, q⟩
    · cases q
    · obtain ⟨v, e1, r1⟩ := g.sh j d' q
      exact ⟨v, e1, r1.mono t hO⟩
  · rcases get h with ⟨rfl, q⟩ | ⟨n, q⟩
    · cases q
      exact ⟨a, s, u, ⟨vs, upd_same, r.mono t hO⟩, f⟩
    · obtain ⟨b, e1, u1, o1, f1⟩ := g.ow j l' d' q
      refine ⟨b, e1, u1, o1.mono t hO (fun z => ?_), f1⟩
      subst z
      exact n (g.inj i j _ _ _ _ b e q s e1)
  · rcases get h1 with ⟨rfl, q1⟩ | ⟨n1, q1⟩
    · rcases get h2 with ⟨rfl, q2⟩ | ⟨n2, q2⟩
      · rfl
      · exact g.inj i k _ _ _ _ b e q2 s1 s2
    · rcases get h2 with ⟨rfl, q2⟩ | ⟨n2, q2⟩
      · exact g.inj j i _ _ _ _ b q1 e s1 s2
      · exact g.inj j k _ _ _ _ b q1 q2 s1 s2
  · refine g.frs b ?_
    by_cases z : b = a
    · rw [z, upd_same] at h; cases h
    · rwa [upd_ne z] at h
theorem snd_seti {x : Nat} {n : Str} {p tp : Pos} {i : Expr} {i' : E} (hN : X.N[x]? = some n) (hv : Vis X.env.scope n) (hd : (n == ("__debug__" : Str)) = false) (hcd : (n == ("__classdict__" : Str)) = false)
    (he : PE X e (rdE B L e')) (hi : PE X i (rdA B L i')) (hs : swapsWithSole [.Subscript (.Name n p) i tp] e pos.line X.env = pure false) (hw : swappedStores [.Subscript (.Name n p) i tp] e X.env = pure none)
    (h1 : (assignEach [.Subscript (.Name n p) i tp] X.env).map (·.2) = [assign (.Subscript (.Name n p) i tp) X.env])
    (ha : ∀ v, assign (.Subscript (.Name n p) i tp) X.env v = (do
      let ov ← holding [v] (PySem.eval (.Name n p) X.env)
      let iv ← holding [v, ov] (PySem.eval i X.env)
      standAt tp
      holding [v, ov, iv] (setItem ov iv v)
      release [v, ov, iv] [])) :
    PS X (.Assign [.Subscript (.Name n p) i tp] e pos) (rdS B Z L (.set x i' e')) := by
  refine (ps_asg he (pg_sub (pe_var hN hv hd hcd) hi set_list ha) hs hw h1).imp fun D σ H ⟨env, U, g, h⟩ => ?_
  simp only [exec] at h
  refine ⟨env, U, g, (WpS.val g h).imp fun d env1 U1 H1 _ p1 h1 v vr => ?_⟩
  obtain ⟨U2, g2, p2, r2, w⟩ := h1 v vr
  cases hx : env1[x]? with
  | none => rw [hx] at w; exact w.elim
  | some s =>
    rw [hx] at w
    cases s with
    | no => exact w.elim
    | sh d => exact w.elim
    | ow l d0 =>
      obtain ⟨a, ea, _⟩ := g2.ow x l d0 hx
      refine ⟨.ref a, ea, env1, U2, g2, (WpS.expr g2 w).imp fun y env2 U3 H3 _ p3 h3 iv ok3 => ?_⟩
      cases hx2 : env2[x]? with
      | none => rw [hx2] at h3; exact h3.elim
      | some s2 =>
        rw [hx2] at h3
        rcases s2 with _ | _ | ⟨l2, (_ | _ | _ | _ | _ | xs)⟩ <;> try exact h3.elim
        simp only at h3
        cases hy : y.peek env2 with
        | none => rw [hy] at h3; exact h3.elim
        | some dy =>
          rw [hy] at h3
          rcases dy with _ | _ | k | _ | _ | _ <;> try exact h3.elim
          simp only at h3
          cases hj : ixN xs.length k with
          | none => rw [hj] at h3; exact h3.elim
          | some j =>
            rw [hj] at h3
            obtain ⟨a2, ea2, u2, ⟨ws, ew, rw2⟩, f2⟩ := p3.good.ow x l2 _ hx2
            rw [ea] at ea2; cases ea2
            have r3 := p3.rep g2 r2
            refine ⟨a, ws, k, j, rfl, (p3.good.peek ok3 hy).int, ew, by rw [rw2.length]; exact hj, ?_⟩
            exact h3 σ U3 _ ⟨Post.write p3.good hx2 ea (rw2.set r3 j), fun _ _ => rfl⟩
theorem snd_app {x : Nat} {n : Str} {p ap cp : Pos} (hN : X.N[x]? = some n) (hv : Vis X.env.scope n) (hd : (n == ("__debug__" : Str)) = false) (hcd : (n == ("__classdict__" : Str)) = false) (he : PE X e (rdE B L e'))
    (hst : starEach [e] X.env = (false, PySem.eval e X.env) :: starEach [] X.env) (hline : (ap.endLine == cp.line) = true) :
    PS X (.Expr (.Call (.Attribute (.Name n p) "append" ap) [e] [] cp) pos) (rdS B Z L (.app x e')) := by
  refine (ps_expr (pe_bm PySem.F.plainAttrs_list PySem.F.slot_list_append PySem.F.type_list_append mt_append (pe_var hN hv hd hcd) (pa_cons he pa_nil hst) rfl (by rw [hst]; rfl) hline hst rfl)).imp fun D σ H ⟨env, U, g, h⟩ => ?_
  simp only [exec] at h
  cases hx : env[x]? with
  | none => rw [hx] at h; exact h.elim
  | some s =>
    rw [hx] at h
    rcases s with _ | _ | ⟨l, (_ | _ | _ | _ | _ | xs)⟩ <;> try exact h.elim
    simp only at h
    obtain ⟨a, ea, u, ⟨ws, ew, rw1⟩, f⟩ := g.ow x l _ hx
    refine ⟨.ref a, ea, .inl ⟨rfl, ws, .inl (.inl ew)⟩, env, U, g, (WpS.val g h).imp fun d env1 U1 H1 _ p1 h1 v vr => ?_⟩
    obtain ⟨U2, g2, p2, r2, w⟩ := h1 v vr
    cases hx2 : env1[x]? with
    | none => rw [hx2] at w; exact w.elim
    | some s2 =>
      rw [hx2] at w
      rcases s2 with _ | _ | ⟨l2, (_ | _ | _ | _ | _ | ys)⟩ <;> try exact w.elim
      simp only at w
      split at w
      · rename_i hlt
        obtain ⟨a2, ea2, u2, ⟨zs, ez, rz⟩, f2⟩ := g2.ow x l2 _ hx2
        rw [ea] at ea2; cases ea2
        refine ⟨a, zs, v, rfl, rfl, ez, by rw [rz.length]; exact Nat.lt_of_lt_of_le hlt line100, ?_⟩
        exact w σ U2 _ ⟨Post.write g2 hx2 ea (rz.append (.cons r2 .nil)), fun _ _ => rfl⟩
      · exact w.elim
def rExtR : V → List V → Hp → VK → Prop := fun x vs H Q => ∃ l b xs zs, x = .ref l ∧ vs = [.ref b] ∧ H l = some (.lst xs) ∧ Rd H b (.lst zs) ∧ xs.length + zs.length ≤ sizeLine ∧ Q .non (upd H l (.lst (xs ++ zs)))
theorem mt_extR : MtR X "list.extend" rExtR := by
  intro pins s σ H x vs v us Q I rx rv h
  obtain ⟨l, b, xs, zs, rfl, rfl, hH, hB, hz, q⟩ := h
  cases rx
  obtain ⟨u, rfl, ru⟩ := rv.one
  cases ru
  obtain ⟨z, its, n, r, hl, e⟩ := I.lstM hH
  obtain ⟨z2, its2, n2, r2, hl2, e2⟩ := Inv.rdM I hB
  have hsz : its.toArray.size + its2.toArray.size ≤ sizeLine := by rw [List.size_toArray, List.size_toArray]; omega
  have hlong : ¬ (!its.toArray.isEmpty && Builtin.List.listTooLong (its.toArray.size + its2.toArray.size)) = true := by
    rw [notLongL hsz, Bool.and_false]
    exact Bool.false_ne_true
  refine call_meets F.slot_list_extend ⟨_, e, rfl⟩ F.entry_list_extend (F.args_list_extend_2 _ _)
    (AutoSeq1.list_extend_list_list_0 l its.toArray n b its2.toArray n2 hlong (by rw [List.size_toArray]; omega) (by omega)) ⟨e, e2, ?_⟩
  refine ⟨.non, _, I.lset (its' := its ++ its2) hH e (by simp) (r.append r2) ?_, rfl, q⟩
  rw [List.length_append]
  omega
theorem snd_ext {x : Nat} {n : Str} {p ap cp : Pos} (hN : X.N[x]? = some n) (hv : Vis X.env.scope n) (hd : (n == ("__debug__" : Str)) = false) (hcd : (n == ("__classdict__" : Str)) = false) (he : PE X e (rdE B L e'))
    (hst : starEach [e] X.env = (false, PySem.eval e X.env) :: starEach [] X.env) (hline : (ap.endLine == cp.line) = true) :
    PS X (.Expr (.Call (.Attribute (.Name n p) "extend" ap) [e] [] cp) pos) (rdS B Z L (.ext x e')) := by
  refine (ps_expr (pe_bm PySem.F.plainAttrs_list PySem.F.slot_list_extend PySem.F.type_list_extend mt_extR (pe_var hN hv hd hcd) (pa_cons he pa_nil hst) rfl (by rw [hst]; rfl) hline hst rfl)).imp fun D σ H ⟨env, U, g, h⟩ => ?_
  simp only [exec] at h
  cases hx : env[x]? with
  | none => rw [hx] at h; exact h.elim
  | some s =>
    rw [hx] at h
    rcases s with _ | _ | ⟨l, (_ | _ | _ | _ | _ | xs)⟩ <;> try exact h.elim
    simp only at h
    obtain ⟨a, ea, u, ⟨ws, ew, rw1⟩, f⟩ := g.ow x l _ hx
    refine ⟨.ref a, ea, .inl ⟨rfl, ws, .inl (.inl ew)⟩, env, U, g, (WpS.val g h).imp fun d env1 U1 H1 _ p1 h1 v vr => ?_⟩
    obtain ⟨U2, g2, p2, r2, w⟩ := h1 v vr
    cases hx2 : env1[x]? with
    | none => rw [hx2] at w; exact w.elim
    | some s2 =>
      rw [hx2] at w
      rcases s2 with _ | _ | ⟨l2, (_ | _ | _ | _ | _ | ys)⟩ <;> try exact w.elim
      simp only at w
      cases hd : d.1 <;> rw [hd] at w r2 <;> try exact w.elim
      rename_i es
      simp only at w
      split at w
      · rename_i hlt
        obtain ⟨a2, ea2, u2, ⟨zs, ez, rz⟩, f2⟩ := g2.ow x l2 _ hx2
        rw [ea] at ea2; cases ea2
        obtain ⟨b, us, rfl, h4, h5⟩ := (Pk.sh r2).lst
        refine ⟨a, b, zs, us, rfl, rfl, ez, h4, by rw [rz.length, h5.length]; exact Nat.le_trans hlt line100, ?_⟩
        exact w σ U2 _ ⟨Post.write g2 hx2 ea (rz.append h5), fun _ _ => rfl⟩
      · exact w.elim
theorem snd_aug {i : Nat} {x : Str} {op : Operator} {o : Bop} (hz : i ∈ Z) (ho : (op = .Add ∧ o = .add) ∨ (op = .Sub ∧ o = .sub)) (hN : X.N.Nodup) (hi : X.N[i]? = some x) (hx : Loc X.env.scope x) (hf : X.fn x = true ∨ X.env.scope.names.lookup x = some .local) (he : PE X e (rdA B L e')) :
    PS X (.AugAssign (.Name x pos') op e pos) (rdS B Z L (.aug i o e')) := by
  have go : ∀ (gg : Int → Int → Int) (D : Ends) (σ : Sg) (H : Hp), ((o = .add ∧ gg = fun i j => i + j) ∨ (o = .sub ∧ gg = fun i j => i - j)) → rdS B Z L (.aug i o e') D σ H → tAug i (rdA B L e') (ipI gg) D σ H := by
    intro gg D σ H hg ⟨env, U, g, h⟩
    simp only [exec] at h
    cases hv : env[i]? with
    | none => rw [hv] at h; exact h.elim
    | some s =>
      rw [hv] at h
      rcases s with _ | (_ | _ | a | _ | _ | _) | _ <;> try exact h.elim
      simp only at h
      obtain ⟨v, ev, rv⟩ := g.sh i _ hv
      cases rv
      refine ⟨.int a, ev, env, U, g, (WpS.expr g h).imp fun y env1 U1 H1 _ p1 h1 w ok1 => ?_⟩
      cases hy : y.peek env1 with
      | none => rw [hy] at h1; exact h1.elim
      | some dy =>
        rw [hy] at h1
        rcases dy with _ | _ | b | _ | _ | _ <;> try exact h1.elim
        simp only at h1
        have hw := (p1.good.peek ok1 hy).int
        have fixZ : ∀ {o : Option V}, ∀ j, j ∉ Z → (σ.set i o)[j]? = σ[j]? := set_fix hz
        rcases hg with ⟨e1, e2⟩ | ⟨e1, e2⟩
        · subst e1 e2
          simp only at h1
          split at h1
          · rename_i hlt
            exact ⟨a, b, rfl, hw, h1 _ U1 H1 ⟨Post.store p1.good hlt (.int _), fixZ⟩⟩
          · exact h1.elim
        · subst e1 e2
          simp only at h1
          split at h1
          · rename_i hlt
            exact ⟨a, b, rfl, hw, h1 _ U1 H1 ⟨Post.store p1.good hlt (.int _), fixZ⟩⟩
          · exact h1.elim
  rcases ho with ⟨rfl, rfl⟩ | ⟨rfl, rfl⟩
  · exact (ps_aug hN hi hx he ip_add hf).imp fun D σ H h => go _ D σ H (.inl ⟨rfl, rfl⟩) h
  · exact (ps_aug hN hi hx he ip_sub hf).imp fun D σ H h => go _ D σ H (.inr ⟨rfl, rfl⟩) h
/-! loops -/
theorem snd_while {body : List Stmt} {body' : List S} (hp : PassesOwn (model X.prog X.w) X.A X.env X.xe) (hc : PT X c (rdT B L c')) (hb : PSs X body (rdSs B Z L body')) : PS X (.While c body [] pos) (rdS B Z L (.whl c' body')) := by
  refine (ps_while hp hc hb).imp fun D σ H ⟨env, U, g, h⟩ => ?_
  simp only [exec] at h
  have hcc : (fun e => (argOf c' (eval L c' e) e).bind fun x env1 => pureR ((x.peek env1).map Pi.D.truth) env1) = fun e => tst L c' e := rfl
  rw [hcc] at h
  refine ⟨fun m σ H => ∃ env U, Gd B.K B.F σ env U H ∧ WpS B Z σ env U H (whLoop (fun e => tst L c' e) (fun e => execs L body' e) m env) D, ⟨turns, env, U, g, h⟩, ?_⟩
  rintro m σ H ⟨env, U, g, h⟩
  cases m with
  | zero => exact h.elim
  | succ m =>
    simp only [whLoop] at h
    refine ⟨env, U, g, (WpS.expr g h).imp fun k env1 U1 H1 _ p1 h1 => ?_⟩
    cases k with
    | false =>
      simp only [Bool.false_eq_true, if_false] at h1 ⊢
      exact h1 σ U1 H1 (.refl p1.good)
    | true =>
      simp only [if_true] at h1 ⊢
      refine ⟨fun σ' H' => ∃ env U, Gd B.K B.F σ' env U H' ∧ WpS B Z σ' env U H' (whLoop (fun e => tst L c' e) (fun e => execs L body' e) m env) D, fun σ' H' q => ⟨m, Nat.lt_succ_self m, q⟩, env1, U1, p1.good, ?_⟩
      cases hr : execs L body' env1 with
      | bad => rw [hr] at h1; exact h1
      | ex x e1 => rw [hr] at h1; exact h1
      | ok f e1 =>
        rw [hr] at h1
        simp only [Res.bind_ok] at h1
        cases f with
        | nx => exact fun σ' U' H' p => ⟨e1, U', p.post.good, WpS.next p1.good p h1⟩
        | ct => exact fun σ' U' H' p => ⟨e1, U', p.post.good, WpS.next p1.good p h1⟩
        | bk => exact h1
        | rt d fr => exact h1
theorem snd_for {body : List Stmt} {body' : List S} {tgt : Tg} {k : ItK} {es' : List E} (hz : ∀ i ∈ tgt.slots, i ∈ Z) (hp : PassesOwn (model X.prog X.w) X.A X.env X.xe) (hc : X.calm = true) (hi : PI X tg iter (rdI B L k es')) (hg : PG X tg (rdG B tgt)) (hb : PSs X body (rdSs B Z L body'))
    (hs : ∀ x, foldedSetIterable iter X.env x = pure x) : PS X (.For tg iter body [] pos) (rdS B Z L (.fo tgt k es' body')) := by
  refine (ps_for hp hc hi hg hb hs).imp fun D σ H ⟨env, U, g, h⟩ => ?_
  simp only [exec] at h
  refine ⟨env, U, g, (WpS.expr g h).imp fun items env1 U1 H1 _ p1 h1 J srcV srcD rsrc itok => ?_⟩
  generalize hf : (fun (d : Pi.D) (e : Env) => (match tgt.store d false e with
          | none => (Res.bad : Res Fl)
          | some e1 => execs L body' e1)) = f at h1
  refine ⟨fun i m σ' H' => m = items.length - i ∧ i ≤ items.length ∧ ∃ envi Ui, PostS B Z σ env1 U1 H1 σ' envi Ui H' ∧ WpS B Z σ' envi Ui H' (foLoop f (items.drop i) envi) D, ⟨items.length, by simp, Nat.zero_le _, env1, U1, .refl p1.good, by simpa using h1⟩, ?_⟩
  rintro i m σ' H' ⟨rfl, hi, envi, Ui, P, w⟩
  have src := P.post.reps p1.good rsrc
  obtain ⟨it1, it2⟩ := itok B.F σ' envi Ui H' P.post.good src i
  cases hit : items[i]? with
  | none =>
    refine .inl ⟨it2 hit, ?_⟩
    rw [List.drop_eq_nil_of_le (List.getElem?_eq_none_iff.mp hit)] at w
    simp only [foLoop] at w
    exact w σ' Ui H' (.refl P.post.good)
  | some d =>
    have hlt : i < items.length := (List.getElem?_eq_some_iff.mp hit).1
    have hd : items.drop i = d :: items.drop (i + 1) := by
      rw [List.drop_eq_getElem_cons hlt]
      congr 1
      exact (List.getElem?_eq_some_iff.mp hit).2
    rw [hd] at w
    simp only [foLoop] at w
    obtain ⟨go, yl⟩ := it1 d hit
    refine .inr ⟨go, fun σ2 H2 => ∃ envi Ui, PostS B Z σ env1 U1 H1 σ2 envi Ui H2 ∧ WpS B Z σ2 envi Ui H2 (foLoop f (items.drop (i + 1)) envi) D, fun σ2 H2 q => ⟨items.length - (i + 1), by omega, rfl, hlt, q⟩, fun x H5 y5 => ?_⟩
    obtain ⟨p5, r5⟩ := yl x H5 y5
    have P5 := P.trans p1.good ⟨p5, fun _ _ => rfl⟩
    have w5 := WpS.next P.post.good ⟨p5, fun _ _ => rfl⟩ w
    rw [← hf] at w5
    simp only at w5
    cases hst : tgt.store d false envi with
    | none => rw [hst] at w5; exact w5.elim
    | some e1 =>
      rw [hst] at w5
      simp only at w5
      refine ⟨envi, Ui, d, e1, p5.good, r5, hst, fun σ6 p6 ag => ?_⟩
      have p6' : PostS B Z σ' envi Ui H5 σ6 e1 Ui H5 := ⟨p6, fun j hj => ag j fun z => hj (hz j z)⟩
      have P6 := P5.trans p1.good p6'
      have w6 := WpS.next p5.good p6' w5
      refine ⟨e1, Ui, p6.good, ?_⟩
      cases hr : execs L body' e1 with
      | bad => rw [hr] at w6; exact w6
      | ex x e2 => rw [hr] at w6; exact w6
      | ok fl e2 =>
        rw [hr] at w6
        simp only [Res.bind_ok] at w6
        rw [hf] at w6
        cases fl with
        | nx => exact fun σ7 U7 H7 p7 => ⟨e2, U7, P6.trans p1.good p7, WpS.next p6.good p7 w6⟩
        | ct => exact fun σ7 U7 H7 p7 => ⟨e2, U7, P6.trans p1.good p7, WpS.next p6.good p7 w6⟩
        | bk => exact w6
        | rt d fr => exact w6
theorem snd_raise {cn : Nat} {x m : Str} {j : Nat} {C : Addr} {p p2 p3 : Pos} {bmB : List Value} {BB newId initId : String} (hc : X.calm = true) (tk : Takes X B.W) (FB : ExcBaseFacts BB newId initId bmB) (q : PySem.W.excIn X.K C bmB newId = true) (gC : X.mg x = some (.ref C)) (kC : PySem.W.keepIn X.K (.ref C) = true) (r : Raises X (.ref C)) (hg : Gl X x)
    (hdb : (x == ("__debug__" : Str)) = false) (hX : ∀ U H, B.XR ⟨cn, none⟩ (.ref C) none U H) : PS X (.Raise (some (.Call (.Name x p) [.Constant (.str m) j p2] [] p3)) none pos) (rdS B Z L (.raise cn)) := by
  refine (ps_raise hc tk (pmk_own FB q gC kC r hg hdb)).imp fun D σ H ⟨env, U, g, h⟩ => ?_
  simp only [exec] at h
  exact h σ U H (.ref C) none (.refl g) (hX U H)
end
end Pi

set_option Elab.async false
set_option linter.all false
set_option maxRecDepth 100000
set_option maxHeartbeats 4000000
/-! PiLa: own errors with a field. -/
namespace Pi
open PySem PySem.Spec PyProof.Rows L2
variable [HasT]

/-- the value of a field -/
def FlV : D → V → Prop
  | .int i, v => v = .int i ∧ -1 ≤ i ∧ i < 1000000000
  | .str s, v => v = .str s ∧ s.length ≤ 100000 ∧ PyData.strOk s = true
  | _, _ => False
theorem FlV.rep {K : PySem.W.Frag} {d : D} {v : V} (h : FlV d v) (U : Addr → Prop) (H : Hp) : Rep K U H v d := by
  cases d <;> first | exact h.elim | skip
  · obtain ⟨rfl, _⟩ := h; exact .int _
  · obtain ⟨rfl, h1, h2⟩ := h; exact .str _ ⟨h2, h1⟩
theorem flV_of {K : PySem.W.Frag} {U : Addr → Prop} {H : Hp} {d : D} {v : V} (h : fldOk d = true) (r : Rep K U H v d) : FlV d v := by
  cases r <;> first | (simp [fldOk] at h; done) | skip
  · simp only [fldOk, Bool.and_eq_true, decide_eq_true_eq] at h
    exact ⟨rfl, h.1, h.2⟩
  · rename_i x hx
    exact ⟨rfl, hx.2, hx.1⟩
/-- the promise of such an __init__ -/
def spI (K : PySem.W.Frag) (C : Addr) (f : Str) : Sp := fun vs H Q _ => ∃ a v d, vs = [.ref a, v] ∧ OexC K C ∧ PySem.W.findIn K (.ref C) f = some none ∧ H a = some (exo a C none) ∧ FlV d v ∧
  ∀ dx, H dx = none → dx ≠ a → Q .non (upd (upd H dx (exd dx [(f, v)])) a (exo a C (some dx)))
/-- the parent's __init__ is that of ValueError -/
structure ParC (K : PySem.W.Frag) (CE : Addr) : Prop where
  ga : PySem.W.specialIn K (.ref CE) "__getattribute__" = some (some (.builtin "type.__getattribute__"))
  rd : PySem.W.readsIn K CE (.type "type") = true
  fc : PySem.W.findCls K (.ref CE) (.type "type") "__init__" = some (.val (.builtin "ValueError.__init__"))
section
variable {X : Cx} {e : Expr} {es : List Expr} {ta : TA} {x : Str} {p1 p2 pos : Pos} {CE : Addr}
/-- C.__init__(self, ..), C an own class over ValueError -/
theorem pe_ceinit {pl : Sem Bool} (hg : Gl X x) (hm : X.mg x = some (.ref CE)) (hd : (x == ("__debug__" : Str)) = false) (T : ParC X.K CE) (ha : PA X (e :: es) ta)
    (hc : PySem.eval (.Call (.Attribute (.Name x p1) "__init__" p2) (e :: es) [] pos) X.env = (do
      let ov ← PySem.eval (.Name x p1) X.env
      standAt p2.atName
      let (f, first) ← holding [ov] (getMethod ov "__init__" pl)
      callWith pos f first (backTo pos (starEach (e :: es) X.env)) (backToKw pos (keywordEach [] X.env))))
    (he : starEach (e :: es) X.env = (false, PySem.eval e X.env) :: starEach es X.env) (hpl : (backTo pos (starEach es X.env)).any (·.1) = false) :
    PE X (.Call (.Attribute (.Name x p1) "__init__" p2) (e :: es) [] pos) (tVeI X.K ta) := by
  refine ⟨fun pins s σ H Q I h => ?_⟩
  refine PySem.W.methodCall_KW (ld_glob I hg hm ?_ hd) hc
  refine PySem.W.method_cls I.kIn T.ga ?_
  refine PySem.W.cls_value I.kIn T.rd T.fc (by decide +kernel) ?_
  show wpAny _ _ (callWith pos (Value.builtin "ValueError.__init__") [] (backTo pos (starEach (e :: es) X.env)) []) _ _ _
  refine PyProof.Rows.callWith_method1 (thn (ha.run pos pins _ σ H _ (I.tok _) h) fun us s1 ⟨vs, H1, I1, r1, a, C, ws, ev, hl, T, ea, q⟩ => ?_) he hpl
  subst ev
  cases r1 with
  | @cons _ u0 _ ur ra rw' =>
    obtain rfl : u0 = Value.ref a := ra
    have hlen : ur.length ≤ sizeLine := by
      rw [← Paired.length rw', sizeLine_eq]
      omega
    exact oinit_ok T I1 ea hlen fun s' J => ⟨.non, H1, J, rfl, q⟩
end
theorem powMono {k n : Nat} (h : k ≤ n) : 2 ^ k ≤ 2 ^ n := Nat.pow_le_pow_right (by decide) h
theorem pow30 : 2 ^ 30 ≤ 2 ^ 1920 := powMono (by decide)
theorem str_int_len {i : Int} (h1 : -1 ≤ i) (h2 : i < 1000000000) : (Str.ofString (toString i)).length ≤ 10 := by
  by_cases h : i = -1
  · subst h; decide
  · exact toString_length_le (k := 10) (by omega) (by decide) (by omega)
/-- str of such a value -/
theorem call_str_fl {X : Cx} : CallR X (.type "str") (fun xs H Q => ∃ d v, xs = [v] ∧ FlV d v ∧ ∀ z : Str, z.length ≤ 100000 → Q (.str z) H) := by
  intro pins s σ H xs us Q I r h
  obtain ⟨d, v, rfl, fv, q⟩ := h
  cases d <;> first | exact fv.elim | skip
  · rename_i i
    obtain ⟨rfl, h1, h2⟩ := fv
    refine call_str_int pins s σ H _ us Q I r ⟨i, rfl, ?_, q _ (Nat.le_trans (str_int_len h1 h2) (by decide))⟩
    by_cases h0 : i.natAbs = 0
    · rw [h0]; decide
    · refine (Nat.log2_lt h0).mpr (Nat.lt_of_lt_of_le (show i.natAbs < 2 ^ 30 by omega) pow30)
  · rename_i z
    obtain ⟨rfl, h1, h2⟩ := fv
    exact SkE.call_str_str pins s σ H _ us Q I r ⟨z, rfl, q z h1⟩
/-- the body of such an __init__ -/
def initB (ce pre self x f : Str) (k : Nat) (p : Nat → Pos) : List Stmt :=
  [.Expr (.Call (.Attribute (.Name ce (p 0)) "__init__" (p 1)) [.Name self (p 2), .BinOp (.Constant (.str pre) k (p 3)) .Add (.Call (.Name "str" (p 4)) [.Name x (p 5)] [] (p 6)) (p 7)] [] (p 8)) (p 9),
   .Assign [.Attribute (.Name self (p 10)) f (p 11)] (.Name x (p 12)) (p 13)]
def initScB (sc : Scope) (self x ce : Str) : Bool := decide (sc.kind = .function) && !sc.isCoroutine && !sc.isGenerator && decide (sc.names.lookup self = some .local) && decide (sc.names.lookup x = some .local) && decide (sc.names.lookup ce = some .globalImplicit) &&
  decide (sc.names.lookup ("str" : Str) = some .globalImplicit) && (sc.names.all fun y => match y.2 with | .free => false | _ => true) && !decide (self = x) && !(self == ("__debug__" : Str)) && !(self == ("__classdict__" : Str)) && !(x == ("__debug__" : Str)) && !(x == ("__classdict__" : Str)) && !(ce == ("__debug__" : Str))
theorem init_ok {P : Program} {w : World} {K : PySem.W.Frag} {mg : Str → Option Value} {base : Heap} {name qual : Str} {prm : Arguments} {scope : Scope} {fI : Addr} {fd : FuncData} {n : Nat} {ce pre self x f : Str} {k : Nat} {p : Nat → Pos} {C CE : Addr}
    (F : FunD K name qual prm (initB ce pre self x f k p) scope [] [] fI fd) (hs : initScB scope self x ce = true) (hmce : mg ce = some (.ref CE)) (hstr : mg "str" = none) (T : ParC K CE) (hpre : pre.length ≤ 1000)
    (hsw : ∀ X : Cx, swapsWith (.Name x (p 12)) (some (.Attribute (.Name self (p 10)) f (p 11))) (p 13).line X.env = pure false)
    (hc : ∀ X : Cx, ∃ pl, PySem.eval (.Call (.Attribute (.Name ce (p 0)) "__init__" (p 1)) [.Name self (p 2), .BinOp (.Constant (.str pre) k (p 3)) .Add (.Call (.Name "str" (p 4)) [.Name x (p 5)] [] (p 6)) (p 7)] [] (p 8)) X.env = (do
      let ov ← PySem.eval (.Name ce (p 0)) X.env
      standAt (p 1).atName
      let (f, first) ← holding [ov] (getMethod ov "__init__" pl)
      callWith (p 8) f first (backTo (p 8) (starEach [.Name self (p 2), .BinOp (.Constant (.str pre) k (p 3)) .Add (.Call (.Name "str" (p 4)) [.Name x (p 5)] [] (p 6)) (p 7)] X.env)) (backToKw (p 8) (keywordEach [] X.env)))) :
    FnOk P w K mg base (L2.CX P w) (n + 1) fI fd [self, x] (spI K C f) := by
  unfold initScB at hs
  simp only [Bool.and_eq_true, Bool.not_eq_true', decide_eq_true_eq, decide_eq_false_iff_not] at hs
  obtain ⟨⟨⟨⟨⟨⟨⟨⟨⟨⟨⟨⟨⟨h1, h2⟩, h3⟩, h4⟩, h5⟩, h6⟩, h7⟩, h8⟩, h9⟩, h10⟩, h11⟩, h12⟩, h13⟩, h14⟩ := hs
  have S : FnScope [self, x] [self, x] scope := ⟨h1, h2, h3, by simp [h9], rfl, fun y hy => by
    simp only [List.mem_cons, List.not_mem_nil, or_false] at hy
    rcases hy with rfl | rfl
    · exact .inl h4
    · exact .inl h5, fun y hy z => by
    have := List.all_eq_true.mp h8 y hy
    rw [z] at this
    cases this⟩
  refine F.ok S (fun vs H Q E ⟨a, v, d, e, _⟩ => by rw [e]; rfl) fun cdv A outer s H vs Q E hr ⟨a, v, d, e, hO, hno, ha, fv, q⟩ => ?_
  subst e
  generalize hX : cxOf (L2.CX P w) P w K mg base [self, x] qual scope fI cdv A outer s H E = X
  have hXm : X.mg = mg := by rw [← hX]; rfl
  have hXK : X.K = K := by rw [← hX]; rfl
  have hXs : X.env.scope = scope := by rw [← hX]; rfl
  have hXN : X.N = [self, x] := by rw [← hX]; rfl
  have pself : ∀ p, PE X (.Name self p) _ := fun p => pe_var (i := 0) (by rw [hXN]; rfl) (by rw [hXs]; exact .inl h4) h10 h11
  have px : ∀ p, PE X (.Name x p) _ := fun p => pe_var (i := 1) (by rw [hXN]; rfl) (by rw [hXs]; exact .inl h5) h12 h13
  obtain ⟨pl, hc⟩ := hc X
  have pstr := pe_callTy (X := X) (pos := p 6) (p := p 4) call_str_fl (show Gl X "str" by rw [← hX]; exact h7) (by rw [hXm]; exact hstr) (show bootBuiltins "str" = some (.type "str") by decide +kernel) (pa_cons (px (p 5)) pa_nil rfl)
  have padd := pe_op (pos := p 7) op_add_str (pe_str (X := X) (x := pre) (j := k) (pos := p 3)) pstr
  have pcall := pe_ceinit (pl := pl) (pos := p 8) (p1 := p 0) (p2 := p 1) (show Gl X ce by rw [← hX]; exact h6) (by rw [hXm]; exact hmce) h14 (hXK ▸ T) (pa_cons (pself (p 2)) (pa_cons padd pa_nil rfl) rfl) hc rfl rfl
  refine ⟨_, pss_cons (ps_expr (pos := p 9) pcall rfl) (pss_one (ps_ost (pos := p 13) (pself (p 10)) (px (p 12)) (hsw X))), ?_⟩
  simp only [tSeq, tDrop, tVeI, tOp, tCB, tVar, tC, tOst, tCons, tNil]
  refine ⟨_, rfl, _, rfl, d, v, rfl, fv, fun z hz => ⟨pre, z, rfl, rfl, ?_, a, C, _, rfl, by simp, hXK ▸ hO, ha, _, rfl, _, rfl, a, C, rfl, hXK ▸ hO, hXK ▸ hno, .inl ⟨ha, q⟩⟩⟩
  rw [sizeLine_eq]
  omega
/-- what is known of an own error with a field -/
structure FldOk (P : Program) (w : World) (K : PySem.W.Frag) (mg : Str → Option Value) (base : Heap) (n : Nat) (f : Str) (C : Addr) : Prop where
  cls : OexC K C
  no : PySem.W.findIn K (.ref C) f = some none
  init : ∃ (fI : Addr) (fd : FuncData) (ps : List Str), PySem.W.findIn K (.ref C) "__init__" = some (some (.ref fI)) ∧ PySem.W.typeIn K (.ref fI) = some (.type "function") ∧ FnOk P w K mg base (L2.CX P w) n fI fd ps (spI K C f) ∧ Binds K fd ps []
section
variable {X : Cx} {B : Sx} {Z : List Nat} {L : Lib}
/-- raise C(e), C with a field -/
theorem snd_raisE {cn n : Nat} {x f : Str} {C : Addr} {p p3 pos : Pos} {e : Expr} {e' : E} (hK : X.K = B.K) (hc : X.calm = true) (tk : Takes X B.W) (F : FldOk X.prog X.w X.K X.mg X.base n f C) (hr : Room (n + 1) X.A) (gC : X.mg x = some (.ref C)) (hg : Gl X x)
    (hdb : (x == ("__debug__" : Str)) = false) (he : PE X e (rdE B L e')) (hs : starEach [e] X.env = (false, PySem.eval e X.env) :: starEach [] X.env)
    (hX : ∀ d v dx U H, FlV d v → H dx = some (.xd [(f, v)]) → B.XR ⟨cn, some (f, d)⟩ (.ref C) (some dx) U H) : PS X (.Raise (some (.Call (.Name x p) [e] [] p3)) none pos) (rdS B Z L (.raisE cn f e')) := by
  obtain ⟨fI, fd, ps, iC, tI, F1, hb⟩ := F.init
  refine (ps_raise hc tk (pmk_oex (dvs := []) (ds := []) F.cls iC tI F1 hr hb .nil (fun _ _ _ _ _ _ _ ⟨_, _, _, _, _, _, _, _, _, _, _, _, z⟩ => z.elim) hg gC (pa_cons he pa_nil hs) hdb hs rfl)).imp fun D σ H ⟨env, U, g, h⟩ => ?_
  simp only [exec] at h
  simp only [tMkO, tCons, tNil]
  refine ⟨env, U, g, (WpS.val g h).imp fun y env1 U1 H1 _ p1 h1 v vr => ⟨by simp, fun a ha => ?_⟩⟩
  obtain ⟨U2, _, p2, r2, h2⟩ := h1 v vr
  by_cases hf : fldOk y.1 = true
  case neg => rw [if_neg hf] at h2; exact h2.elim
  rw [if_pos hf] at h2
  have fv := flV_of hf r2
  refine ⟨a, v, y.1, rfl, F.cls, F.no, upd_same, fv, fun dx hn hne => ⟨rfl, dx, [(f, v)], upd_same, ?_, ?_, ?_⟩⟩
  · rw [upd_ne hne, upd_same]
  · rwa [upd_ne hne] at hn
  · have hn1 : H1 dx = none := by rwa [upd_ne hne] at hn
    have e1 : upd (del (upd (upd (upd H1 a (exo a C none)) dx (exd dx [(f, v)])) a (exo a C (some dx))) a) dx (.xd [(f, v)]) = upd H1 dx (.xd [(f, v)]) := by
      funext b
      by_cases hb : b = dx
      · rw [hb, upd_same, upd_same]
      · rw [upd_ne hb, upd_ne hb]
        by_cases hba : b = a
        · rw [hba, del_same, ha]
        · rw [del_ne hba, upd_ne hba, upd_ne hb, upd_ne hba]
    rw [e1]
    obtain ⟨p3, k3⟩ := Post.new (o := .xd [(f, v)]) p2.good hn1 (fun _ z => by cases z)
    exact h2 σ U2 _ (.ref C) (some dx) ⟨p3, fun _ _ => rfl⟩ (hX _ _ _ _ _ fv upd_same)
end
end Pi

set_option Elab.async false
set_option linter.all false
set_option maxRecDepth 100000
set_option maxHeartbeats 4000000
/-! PiM: try. -/
namespace Pi
open PySem PySem.Spec PyProof.Rows L2
variable [HasT]

/-- the error's name stands for the error -/
def At (n : Option Nat) (σ : Sg) (a : Addr) : Prop := ∀ i, n = some i → σ[i]? = some (some (.ref a))
/-- the field of an error stands in its dict -/
def XFd (x : Exc) (dd : Option Addr) (H : Hp) : Prop := ∀ f d, x.fld = some (f, d) → ∃ da v, dd = some da ∧ H da = some (.xd [(f, v)]) ∧ FlV d v
/-- in a suite: the value of an expression -/
def rdX (B : Sx) (L : Lib) (x : Exc) (n : Option Nat) (a : Addr) (dd : Option Addr) (e : XE) : TE := fun σ H Q => At n σ a ∧ XFd x dd H ∧ ∃ env U, Gd B.K B.F σ env U H ∧ ∃ d, evalX L x e = some d ∧
  ∀ v U' H', Post B.K B.F σ env U H σ env U' H' → Rep B.K U' H' v d → Q v H'
def rdXl (B : Sx) (L : Lib) (x : Exc) (n : Option Nat) (a : Addr) (dd : Option Addr) (es : List XE) : TA := fun σ H Q => At n σ a ∧ XFd x dd H ∧ ∃ env U, Gd B.K B.F σ env U H ∧ ∃ ds, evalXs L x es = some ds ∧
  ∀ vs U' H', Post B.K B.F σ env U H σ env U' H' → RepAll B.K U' H' vs ds → Q vs H'
def rdXs (B : Sx) (Z : List Nat) (L : Lib) (x : Exc) (n : Option Nat) (a : Addr) (dd : Option Addr) (s : List XS) : TS := fun D σ H => At n σ a ∧ XFd x dd H ∧ ∃ env U, Gd B.K B.F σ env U H ∧ WpS B Z σ env U H (execX L x s env) D
theorem XFd.mono {K F σ env U} {H : Hp} {σ' env' U'} {H' : Hp} {x : Exc} {dd : Option Addr} (g : Gd K F σ env U H) (p : Post K F σ env U H σ' env' U' H') (h : XFd x dd H) : XFd x dd H' := fun f d e => by
  obtain ⟨da, v, e1, e2, e3⟩ := h f d e
  refine ⟨da, v, e1, p.tr.keep _ _ e2 (fun z => ?_) (fun _ z => by cases z), e3⟩
  obtain ⟨_, xs, q⟩ := g.hO _ z
  rw [e2] at q; cases q
section
variable {X : Cx} {B : Sx} {Z : List Nat} {L : Lib} {x : Exc} {n : Option Nat} {a : Addr} {dd : Option Addr} {e : Expr} {e' : XE} {pos pos' : Pos} {σ : Sg} {env : Env} {U : Addr → Prop} {H : Hp} {D : Ends}
theorem rdX_same {d : Pi.D} {v : V} {Q : VK} (h : rdX B L x n a dd e' σ H Q) (e1 : evalX L x e' = some d) (r : ∀ U H, Rep B.K U H v d) : Q v H := by
  obtain ⟨_, _, env, U, g, d', e2, q⟩ := h
  rw [e1] at e2; cases e2
  exact q v U H (.refl g) (r U H)
theorem snd_xcon {d : Pi.D} {v : V} (h : PE X e (tC v)) (r : ∀ U H, Rep B.K U H v d) : PE X e (rdX B L x n a dd (.con d)) :=
  h.imp fun σ H Q q => rdX_same q (by simp only [evalX]) r
/-- isinstance(e, C) -/
theorem snd_xis {a0 : Addr} {DD Ca : Addr} {oe : Obj} {pn : List (Addr × Obj)} {i : Nat} {en cn : Str} {c : Nat} {p p2 p3 : Pos} (hfl : x.fld = none) (hn : n = some i) (hN : X.N[i]? = some en) (hv : Vis X.env.scope en) (hd : (en == ("__debug__" : Str)) = false) (hcd : (en == ("__classdict__" : Str)) = false)
    (hg : Gl X "isinstance") (hm : X.mg "isinstance" = none) (hg2 : Gl X cn) (hm2 : X.mg cn = some (.ref Ca)) (hd2 : (cn == ("__debug__" : Str)) = false)
    (C : ExcC X.K DD) (hz : Zc (.ref DD) none oe) (hf : ∃ vs, oe.data = .fields vs) (hk : PySem.W.kitOne X.K (.ref DD) (.ref Ca) = some (L.sub x.cls c)) :
    PE (X.suite a0 ((a0, oe) :: pn)) (.Call (.Name "isinstance" p) [.Name en p2, .Name cn p3] [] pos) (rdX B L x n a0 dd (.isin c)) := by
  refine (pe_callB (call_isE C hz hf) hg hm boot_isinstance (pa_cons (pe_var hN hv hd hcd) (pa_cons (pe_glob (v := .ref Ca) hg2 hm2 rfl hd2) pa_nil) rfl) (by decide) (by decide) rfl rfl).imp fun σ H Q h => ?_
  refine ⟨.ref a0, h.1 i hn, ?_⟩
  exact ⟨.ref Ca, .ref Ca, L.sub x.cls c, rfl, fun u r => r, hk, rdX_same h (by simp [evalX, hfl]) fun U H => .bl _⟩
/-- name = value -/
theorem snd_xasg {j : Nat} {y : Str} (hz : j ∈ Z) (hN : X.N.Nodup) (hi : X.N[j]? = some y) (hx : Loc X.env.scope y) (hf : X.fn y = true ∨ X.env.scope.names.lookup y = some .local) (he : PE X e (rdX B L x n a dd e')) (hs : swapsWith e (some (.Name y pos')) pos.line X.env = pure false) :
    PSs X [.Assign [.Name y pos'] e pos] (rdXs B Z L x n a dd [.asg j e']) := by
  refine (pss_one (ps_set hN hi hx he hs hf)).imp fun D σ H ⟨ht, hxf, env, U, g, h⟩ => ?_
  simp only [execX] at h
  refine ⟨ht, hxf, env, U, g, ?_⟩
  cases hd : evalX L x e' with
  | none => rw [hd] at h; exact h.elim
  | some d =>
    rw [hd] at h
    simp only at h
    split at h
    · rename_i hlt
      exact ⟨d, rfl, fun v U' H' p r => h _ U' H' ⟨p.trans g (Post.store p.good hlt r), set_fix hz⟩⟩
    · exact h.elim
/-! the whole statement -/
abbrev Sx.with (B : Sx) (W : WX) : Sx := { B with W := W }
/-- what a suite may lean on -/
def tsX (B : Sx) (Z : List Nat) (L : Lib) (n : Option Nat) (h : List XS) : Addr → Value → Option Addr → TS := fun a cls d D σ H => ∃ x, (∃ U, B.XR x cls d U H) ∧ rdXs B Z L x n a d h D σ H
theorem psX {ss : List Stmt} {h : List XS} {Y : Cx} {cls : Value} {d : Option Addr} (k : ∀ x, (∃ U H, B.XR x cls d U H) → PSs Y ss (rdXs B Z L x n a d h)) : PSs Y ss (tsX B Z L n h a cls d) :=
  ⟨fun pins s σ H D I ⟨x, ⟨U, r⟩, hw⟩ => (k x ⟨U, H, r⟩).run pins s σ H D I hw⟩
theorem WpS.with {W' : WX} {r : Res Fl} {f : Exc → Env → Res Fl} (h : WpS B Z σ env U H (match (generalizing := false) r with | .ex x e => f x e | r => r) D)
    (k : ∀ x env1 σ' U' H' c dx, PostS B Z σ env U H σ' env1 U' H' → B.XR x c dx U' H' → WpS B Z σ' env1 U' H' (f x env1) D → W' c dx σ' H') (g : Gd B.K B.F σ env U H) : WpS (B.with W') Z σ env U H r D := by
  cases r with
  | bad => exact h
  | ex x e =>
    intro σ' U' H' c dx p r
    exact k x e σ' U' H' c dx ⟨p.post, p.fix⟩ r (WpS.next g ⟨p.post, p.fix⟩ h)
  | ok f e =>
    cases f with
    | nx => exact fun σ' U' H' p => h σ' U' H' ⟨p.post, p.fix⟩
    | bk => exact fun σ' U' H' p => h σ' U' H' ⟨p.post, p.fix⟩
    | ct => exact fun σ' U' H' p => h σ' U' H' ⟨p.post, p.fix⟩
    | rt d fr => exact fun v σ' U' H' p => h v σ' U' H' ⟨p.post, p.fix⟩
theorem exec_tr {L : Lib} {b : List S} {hs : List (Nat × Option Nat × List XS)} {env : Env} : exec L (.tr b hs) env = (match (generalizing := false) execs L b env with | .ex x e => catchX L x hs e | r => r) := by
  simp only [exec] <;> (cases execs L b env <;> rfl)
/-- e.f -/
theorem snd_xfld {a0 C : Addr} {oe : Obj} {pn : List (Addr × Obj)} {i : Nat} {en f : Str} {p2 pos : Pos} (hn : n = some i) (hN : X.N[i]? = some en) (hv : Vis X.env.scope en) (hd : (en == ("__debug__" : Str)) = false) (hcd : (en == ("__classdict__" : Str)) = false)
    (T : ∀ d, x.fld = some (f, d) → XfC X.K C ∧ PySem.W.findIn X.K (.ref C) f = some none) (hz : Zc (.ref C) dd oe) (hf : ∃ vs, oe.data = .fields vs) (hb : attributeBase (.Name en p2) f X.env (PySem.eval (.Name en p2) X.env) = PySem.eval (.Name en p2) X.env) :
    PE (X.suite a0 ((a0, oe) :: pn)) (.Attribute (.Name en p2) f pos) (rdX B L x n a0 dd (.fld f)) := by
  refine ⟨fun pins s σ H Q I h => ?_⟩
  obtain ⟨ht, hx, env, U, g, d, e, q⟩ := h
  cases hfl : x.fld with
  | none => simp [evalX, hfl] at e
  | some fd =>
    obtain ⟨f', d'⟩ := fd
    simp only [evalX, hfl, Option.bind_some] at e
    split at e
    case isFalse => cases e
    rename_i hff
    have hff : f' = f := hff
    subst hff
    cases e
    obtain ⟨T1, T2⟩ := T d hfl
    obtain ⟨da, v, rfl, e2, e3⟩ := hx _ _ hfl
    refine (pe_xf (X := X) (a := a0) (C := C) (pos := pos) T1 T2 hz hf (pe_var (X := X.suite a0 ((a0, oe) :: pn)) (i := i) hN hv hd hcd) hb).run pins s σ H Q I ?_
    exact ⟨.ref a0, ht i hn, rfl, rfl, da, _, v, rfl, e2, by simp, q v U H (.refl g) (e3.rep U H)⟩
/-- several values -/
theorem snd_xnil : PA X [] (rdXl B L x n a dd []) := pa_nil.imp fun σ H Q ⟨_, _, env, U, g, ds, e, q⟩ => by
  simp only [evalXs] at e
  cases e
  exact q [] U H (.refl g) .nil
theorem snd_xcons {es : List Expr} {es' : List XE} (he : PE X e (rdX B L x n a dd e')) (hr : PA X es (rdXl B L x n a dd es')) (hs : starEach (e :: es) X.env = (false, PySem.eval e X.env) :: starEach es X.env) : PA X (e :: es) (rdXl B L x n a dd (e' :: es')) := by
  refine (pa_cons he hr hs).imp fun σ H Q ⟨ht, hx, env, U, g, ds, e, q⟩ => ?_
  simp only [evalXs] at e
  cases h1 : evalX L x e' with
  | none => rw [h1] at e; cases e
  | some d =>
    rw [h1] at e
    simp only [Option.bind_some] at e
    cases h2 : evalXs L x es' with
    | none => rw [h2] at e; cases e
    | some ds2 =>
      rw [h2] at e
      cases e
      exact ⟨ht, hx, env, U, g, d, h1, fun v U1 H1 p1 r1 => ⟨ht, hx.mono g p1, env, U1, p1.good, ds2, h2, fun vs U2 H2 p2 r2 => q _ U2 H2 (p1.trans g p2) (.cons (p2.rep p1.good r1) r2)⟩⟩
theorem xl_len {L : Lib} {x : Exc} : ∀ {es : List XE} {ds : List Pi.D}, evalXs L x es = some ds → ds.length = es.length
  | [], ds, e => by simp only [evalXs] at e; cases e; rfl
  | e' :: es, ds, e => by
    simp only [evalXs] at e
    cases h1 : evalX L x e' with
    | none => rw [h1] at e; cases e
    | some d =>
      rw [h1] at e
      simp only [Option.bind_some] at e
      cases h2 : evalXs L x es with
      | none => rw [h2] at e; cases e
      | some ds2 => rw [h2] at e; cases e; rw [List.length_cons, List.length_cons, xl_len h2]
theorem snd_xtup {es : List Expr} {es' : List XE} {k : Nat} (hl : es'.length ≤ 1000) (h : PA X es (rdXl B L x n a dd es')) : PE X (.Tuple es k pos) (rdX B L x n a dd (.tup es')) := by
  refine (pe_tup h).imp fun σ H Q ⟨ht, hx, env, U, g, d, e, q⟩ => ?_
  simp only [evalX] at e
  cases h2 : evalXs L x es' with
  | none => rw [h2] at e; cases e
  | some ds =>
    rw [h2] at e
    cases e
    refine ⟨ht, hx, env, U, g, ds, h2, fun vs U1 H1 p1 r1 => ⟨?_, fun p hp => ?_⟩⟩
    · rw [r1.length, xl_len h2]
      exact Nat.le_trans hl (Nat.le_trans (by decide) line100)
    · obtain ⟨p2, r2⟩ := new_tup p1.good hp r1
      exact q _ U1 _ (p1.trans g p2) r2
/-! several clauses, with names and without -/
/-- the slot is emptied behind the suite -/
def unD (D : Ends) (i : Nat) : Ends := { nx := fun σ' H' => D.nx (σ'.set i none) H', rt := D.rt, bk := fun σ' H' => D.bk (σ'.set i none) H', ct := fun σ' H' => D.ct (σ'.set i none) H' }
def wMix (K : PySem.W.Frag) (Wout : WX) (D : Ends) : List (Value × Option Nat × (Addr → Value → Option Addr → TS)) → WX
  | [] => Wout
  | (c, o, ts) :: r => fun cls d σ H => ∃ b, PySem.W.exmOne K cls c = some b ∧ (b = true → ∀ a, H a = none → match o with
      | none => ts a cls d D σ H
      | some i => ts a cls d (unD D i) (σ.set i (some (.ref a))) H) ∧ (b = false → wMix K Wout D r cls d σ H)
inductive HdsMix (X : Cx) : List ExceptHandler → List (Value × Option Nat × (Addr → Value → Option Addr → TS)) → Prop
  | nil : HdsMix X [] []
  | cons {x : Str} {c : Value} {ts : Addr → Value → Option Addr → TS} {b₀ : Stmt} {suite : List Stmt} {np pos' : Pos} {hds : List ExceptHandler} {l : List (Value × Option Nat × (Addr → Value → Option Addr → TS))} (hc : Names X x c)
      (hsu : ∀ (a : Addr) (oe : Obj) (cls : Value) (d : Option Addr) (pn : List (Addr × Obj)), Zc cls d oe → (∃ vs, oe.data = .fields vs) → PSs (X.suite a ((a, oe) :: pn)) (b₀ :: suite) (ts a cls d)) (r : HdsMix X hds l) :
      HdsMix X (.ExceptHandler (some (.Name x np)) none (b₀ :: suite) pos' :: hds) ((c, none, ts) :: l)
  | named {x en : Str} {c : Value} {i : Nat} {ts : Addr → Value → Option Addr → TS} {b₀ : Stmt} {suite : List Stmt} {np pos' : Pos} {hds : List ExceptHandler} {l : List (Value × Option Nat × (Addr → Value → Option Addr → TS))} (hc : Names X x c) (hi : X.N[i]? = some en) (hln : X.env.kindOf en = some .local)
      (hsu : ∀ (a : Addr) (oe : Obj) (cls : Value) (d : Option Addr) (pn : List (Addr × Obj)), Zc cls d oe → (∃ vs, oe.data = .fields vs) → PSs (X.suite a ((a, oe) :: pn)) (b₀ :: suite) (ts a cls d)) (r : HdsMix X hds l) :
      HdsMix X (.ExceptHandler (some (.Name x np)) (some en) (b₀ :: suite) pos' :: hds) ((c, some i, ts) :: l)
theorem ps_try_mix {body : List Stmt} {h₀ : ExceptHandler} {hds : List ExceptHandler} {l : List (Value × Option Nat × (Addr → Value → Option Addr → TS))} {tb : WX → TS} {Wout : WX} (hs : X.stack = X.env :: X.outer) (hf : X.env.frame = some X.env.locals) (hN : X.N.Nodup) (tk : Takes X Wout)
    (hb : ∀ (W : WX) (pn : List (Addr × Obj)) (xe : Value → Shared → Prop), Takes (X.tr pn xe) W → PassesOwn (model X.prog X.w) X.A X.env xe → PSs (X.tr pn xe) body (tb W))
    (hh : HdsMix X (h₀ :: hds) l) : PS X (.Try body (h₀ :: hds) [] [] pos) (fun D σ H => tb (wMix X.K Wout D l) D σ H) := by
  refine ⟨fun pins s σ H D I h => ?_⟩
  have ok := I.ok
  have hfr : X.A.frames = some (X.env :: X.outer) := by rw [ok.frames, hs]
  refine wpAny_Try_except ?_
  refine wpAny_mono ((hb (wMix X.K Wout D l) (X.pn ++ pins) (fun e s₁ => wpAny (model X.prog X.w) X.A (noteFrame e X.env) (fun _ s₂ => wpAny (model X.prog X.w) X.A (setFlight e none) (fun _ s₃ =>
    wpAny (model X.prog X.w) X.A (handleBy e X.env (h₀ :: hds)) (SP X pins D) X.xe s₃) X.xe s₂) X.xe s₁) (fun u s' xx => ?_) PassesOwn.looking).run [] s σ H D (I.toTry _) h) (fun f s1 hsp => ?_) (fun e s1 he => he)
  · obtain ⟨a, Bh, sI, pins', σ', H', cls, d, rfl, J', nb, up, sky, na, os, ag, w⟩ := xx
    have J : Inv X pins σ' H' sI := J'.ofTry ok
    have sky' : Sky Bh (X.env :: X.outer) a (Zc cls d) X.env.locals s'.heap := by rw [← hs]; exact sky
    show wpAny (model X.prog X.w) X.A (noteFrame (.ref a) X.env) _ _ _
    refine Sky.land Zc.steady hfr hf sky' fun h3 fl3 up3 => ?_
    have J3 : Inv X pins σ' H' { s' with heap := h3 } := J.landed nb fl3.1 (up.trans up3) os ag
    obtain ⟨oe3, vs3, he3, hz3, hd3⟩ := fl3.there
    have nfr : a ∉ frs (X.env :: X.outer) := fun hm => by
      obtain ⟨_, o', e', hnf⟩ := fl3.2.2.1.mem hm
      rw [he3] at e'; cases e'
      exact hnf _ hd3
    have nL : a ≠ X.env.locals := fun z => nfr (List.mem_filterMap.mpr ⟨X.env, List.mem_cons_self, by rw [hf, z]⟩)
    have nF : a ∉ X.fs := fun hm => by
      obtain ⟨e, he, q⟩ := List.mem_filterMap.mp hm
      exact nfr (List.mem_filterMap.mpr ⟨e, List.mem_cons_of_mem _ he, q⟩)
    have S3 := J3.suite he3 hd3 na nL nF
    have LT : PySem.W.Looks (model X.prog X.w) h3 (typeOf (.ref a)) cls := fun A Q E s k q => wpAny_typeOf_ref (k _ _ he3) (by rw [hz3.1]; exact q)
    have test : ∀ {x : Str} {c : Value} {np : Pos} {Q : Value → Shared → Prop} {E : Value → Shared → Prop}, Names X x c → Q c { s' with heap := h3 } → wpAny (model X.prog X.w) (X.A.mark (some (.ref a))) (PySem.eval (.Name x np) X.env) Q E { s' with heap := h3 } := fun {x c np Q E} hc q => by
      obtain ⟨hg, hdbg, hm | ⟨hm, hv, hnn⟩⟩ := hc
      · exact ld_glob (X := X.suite a ((a, oe3) :: (X.pn ++ pins))) S3 hg hm q hdbg
      · exact ld_blt (X := X.suite a ((a, oe3) :: (X.pn ++ pins))) S3 hg hm hv q hnn hdbg
    have go : ∀ {hds' : List ExceptHandler} {l' : List (Value × Option Nat × (Addr → Value → Option Addr → TS))}, HdsMix X hds' l' → wMix X.K Wout D l' cls d σ' H' →
        wpAny (model X.prog X.w) X.A (handleBy (.ref a) X.env hds') (SP X pins D) X.xe { s' with heap := h3 } := by
      intro hds' l' hk
      induction hk with
      | nil =>
        intro w
        refine wpAny_handleBy_nil ?_
        obtain ⟨k1, k2, k3, oe, vs, T, oT, ts', he, hz, hd, h1, hr⟩ := id fl3
        unfold PySem.passOn
        refine wpAny_bind (wpAny_field he hd h1 ?_)
        rw [if_neg (show ¬ ((Value.ref T == Value.none) = true) from by simp)]
        have fin : wpAny (model X.prog X.w) X.A (setFlight (.ref a) X.env.frame) (fun _ s4 => wpAny (model X.prog X.w) X.A (throw (.ref a) : Sem Flow) (SP X pins D) X.xe s4) X.xe { s' with heap := h3 } := by
          rw [hf]
          refine HandSPX.setFlight_upZ fl3 fun h4 hh4 up4 => wpAny_throw (tk _ _ ?_)
          exact ⟨a, Bh, sI, pins, σ', H', cls, d, rfl, J, nb, (up.trans up3).trans up4, .inr (.inr (by rw [hs]; exact hh4)), na, os, ag, w⟩
        first
          | exact wpAny_bind (wpAny_pure (wpAny_bind fin))
          | exact wpAny_bind fin
      | @cons x c ts b₀ suite np pos' hds2 l2 hc hsu r ih =>
        intro w
        obtain ⟨b, hb1, hyes, hno⟩ := w
        refine wpAny_handleBy_cons (codeAny_handlers_test ?_) (by intro q; cases q)
        refine test hc ((PySem.W.exm_one (M := model X.prog X.w) (J3.kIn) LT hb1).here ?_)
        cases b with
        | true =>
          refine codeAny_handlers_suite ?_
          refine HandSPX.lands_againZ fl3 fun h4 fl4 up4 => ?_
          have J4 : Inv X pins σ' H' { s' with heap := h4 } := J.landed nb fl4.1 ((up.trans up3).trans up4) os ag
          obtain ⟨oe4, vs4, he4, hz4, hd4⟩ := fl4.there
          have S4 := J4.suite he4 hd4 na nL nF
          refine wpAny_mono ((hsu a oe4 cls d (X.pn ++ pins) hz4 ⟨_, hd4⟩).run [] _ _ H' _ S4 (hyes rfl a na)) (fun f s6 hsp => ?_) (fun _ _ z => False.elim z)
          cases f with
          | next => obtain ⟨σ6, H6, S6, q6⟩ := hsp; exact ⟨_, _, S6.unsuite ok, q6⟩
          | brk => obtain ⟨σ6, H6, S6, q6⟩ := hsp; exact ⟨_, _, S6.unsuite ok, q6⟩
          | cont => obtain ⟨σ6, H6, S6, q6⟩ := hsp; exact ⟨_, _, S6.unsuite ok, q6⟩
          | ret u => obtain ⟨v6, σ6, H6, S6, r6, q6⟩ := hsp; exact ⟨_, _, _, S6.unsuite ok, r6, q6⟩
        | false =>
          show wpAny _ X.A (handleBy (.ref a) X.env hds2) _ _ _
          exact ih (hno rfl)
      | @named x en c i ts b₀ suite np pos' hds2 l2 hc hi hln hsu r ih =>
        intro w
        obtain ⟨b, hb1, hyes, hno⟩ := w
        refine wpAny_handleBy_cons (codeAny_handlers_test ?_) (by intro q; cases q)
        refine test hc ((PySem.W.exm_one (M := model X.prog X.w) (J3.kIn) LT hb1).here ?_)
        cases b with
        | true =>
          refine codeAny_handlers_suite_as ?_
          refine HandSPX.lands_againZ fl3 fun h4 fl4 up4 => ?_
          have J4 : Inv X pins σ' H' { s' with heap := h4 } := J.landed nb fl4.1 ((up.trans up3).trans up4) os ag
          obtain ⟨oe4, vs4, he4, hz4, hd4⟩ := fl4.there
          have S4 := J4.suite he4 hd4 na nL nF
          refine store_ok (X := X.suite a ((a, oe4) :: (X.pn ++ pins))) (v := .ref a) S4 hN hi (.inl hln) rfl (fun s5 S5 => ?_) (.inr hln)
          refine wpAny_mono ((hsu a oe4 cls d (X.pn ++ pins) hz4 ⟨_, hd4⟩).run [] s5 _ H' _ S5 (hyes rfl a na)) (fun f s6 hsp => ?_) (fun _ _ z => False.elim z)
          have end_ : ∀ {σ6 : L2.St} {H6 : Hp} {Q : Shared → Prop}, Inv (X.suite a ((a, oe4) :: (X.pn ++ pins))) [] σ6 H6 s6 → (∀ s7, Inv X pins (σ6.set i none) H6 s7 → Q s7) →
              wpAny (model X.prog X.w) X.A (do bindName X.env en .none; unbindBehindTheSuite X.env en pos') (fun _ s7 => Q s7) X.xe s6 := fun {σ6 H6 Q} S6 hq => gone_ok (S6.unsuite ok) hN hi hln hq
          cases f with
          | next => obtain ⟨σ6, H6, S6, q6⟩ := hsp; exact end_ S6 fun s7 J7 => ⟨_, _, J7, q6⟩
          | brk => obtain ⟨σ6, H6, S6, q6⟩ := hsp; exact end_ S6 fun s7 J7 => ⟨_, _, J7, q6⟩
          | cont => obtain ⟨σ6, H6, S6, q6⟩ := hsp; exact end_ S6 fun s7 J7 => ⟨_, _, J7, q6⟩
          | ret u => obtain ⟨v6, σ6, H6, S6, r6, q6⟩ := hsp; exact end_ S6 fun s7 J7 => ⟨_, _, _, J7, r6, q6⟩
        | false =>
          show wpAny _ X.A (handleBy (.ref a) X.env hds2) _ _ _
          exact ih (hno rfl)
    exact go hh w
  · cases f with
    | next => obtain ⟨σ', H', J', q⟩ := hsp; exact wpAny_execs_nil ⟨σ', H', J'.ofTry ok, q⟩
    | brk => obtain ⟨σ', H', J', q⟩ := hsp; exact ⟨σ', H', J'.ofTry ok, q⟩
    | cont => obtain ⟨σ', H', J', q⟩ := hsp; exact ⟨σ', H', J'.ofTry ok, q⟩
    | ret u => obtain ⟨v, σ', H', J', r, q⟩ := hsp; exact ⟨v, σ', H', J'.ofTry ok, r, q⟩
/-- the clauses and what the interpreter has of them -/
inductive Hds (X : Cx) (B : Sx) (Z : List Nat) (L : Lib) : List ExceptHandler → List (Nat × Option Nat × List XS) → List (Value × Option Nat × (Addr → Value → Option Addr → TS)) → Prop
  | nil : Hds X B Z L [] [] []
  | cons {cn : Str} {c : Value} {cx : Nat} {b₀ : Stmt} {suite : List Stmt} {h : List XS} {np pos' : Pos} {hds : List ExceptHandler} {hs : List (Nat × Option Nat × List XS)} {l : List (Value × Option Nat × (Addr → Value → Option Addr → TS))} (hc : Names X cn c)
      (hex : ∀ x cls dx U H, B.XR x cls dx U H → PySem.W.exmOne X.K cls c = some (L.sub x.cls cx))
      (hsu : ∀ (a : Addr) (oe : Obj) (cls : Value) (d : Option Addr) (pn : List (Addr × Obj)), Zc cls d oe → (∃ vs, oe.data = .fields vs) → ∀ x, (∃ U H, B.XR x cls d U H) → PSs (X.suite a ((a, oe) :: pn)) (b₀ :: suite) (rdXs B Z L x none a d h))
      (t : Hds X B Z L hds hs l) : Hds X B Z L (.ExceptHandler (some (.Name cn np)) none (b₀ :: suite) pos' :: hds) ((cx, none, h) :: hs) ((c, none, tsX B Z L none h) :: l)
  | named {cn en : Str} {c : Value} {cx i : Nat} {b₀ : Stmt} {suite : List Stmt} {h : List XS} {np pos' : Pos} {hds : List ExceptHandler} {hs : List (Nat × Option Nat × List XS)} {l : List (Value × Option Nat × (Addr → Value → Option Addr → TS))} (hc : Names X cn c) (hiZ : i ∈ Z) (hi : X.N[i]? = some en) (hln : X.env.kindOf en = some .local)
      (hex : ∀ x cls dx U H, B.XR x cls dx U H → PySem.W.exmOne X.K cls c = some (L.sub x.cls cx))
      (hsu : ∀ (a : Addr) (oe : Obj) (cls : Value) (d : Option Addr) (pn : List (Addr × Obj)), Zc cls d oe → (∃ vs, oe.data = .fields vs) → ∀ x, (∃ U H, B.XR x cls d U H) → PSs (X.suite a ((a, oe) :: pn)) (b₀ :: suite) (rdXs B Z L x (some i) a d h))
      (t : Hds X B Z L hds hs l) : Hds X B Z L (.ExceptHandler (some (.Name cn np)) (some en) (b₀ :: suite) pos' :: hds) ((cx, some i, h) :: hs) ((c, some i, tsX B Z L (some i) h) :: l)
theorem Hds.ok : ∀ {hds : List ExceptHandler} {hs : List (Nat × Option Nat × List XS)} {l : List (Value × Option Nat × (Addr → Value → Option Addr → TS))}, Hds X B Z L hds hs l → HdsMix X hds l
  | _, _, _, .nil => .nil
  | _, _, _, .cons hc _ hsu t => .cons hc (fun a oe cls d pn hz hd => psX fun x r => hsu a oe cls d pn hz hd x r) t.ok
  | _, _, _, .named hc _ hi hln _ hsu t => .named hc hi hln (fun a oe cls d pn hz hd => psX fun x r => hsu a oe cls d pn hz hd x r) t.ok
/-- a suite with the error's name -/
theorem named_suite {D : Ends} {i : Nat} {x : Exc} {env1 : Env} {σ' : Sg} {U' : Addr → Prop} {H' : Hp} {a : Addr} {h : List XS} (hiZ : i ∈ Z) (g : Gd B.K B.F σ' env1 U' H')
    (w1 : WpS B Z σ' env1 U' H' (if i < env1.length then (execX L x h (env1.set i .no)).bind fun f env2 => .ok f (env2.set i .no) else .bad) D) :
    i < env1.length ∧ WpS B Z (σ'.set i (some (.ref a))) (env1.set i .no) U' H' (execX L x h (env1.set i .no)) (unD D i) := by
  split at w1
  · rename_i hlt
    refine ⟨hlt, ?_⟩
    have p1 : PostS B Z σ' env1 U' H' (σ'.set i (some (.ref a))) (env1.set i .no) U' H' := ⟨Post.setNo g, set_fix hiZ⟩
    have w3 := WpS.next g p1 w1
    have fin : ∀ {σ2 env2 U2 H2}, PostS B Z (σ'.set i (some (.ref a))) (env1.set i .no) U' H' σ2 env2 U2 H2 → PostS B Z (σ'.set i (some (.ref a))) (env1.set i .no) U' H' (σ2.set i none) (env2.set i .no) U2 H2 :=
      fun {σ2 env2 U2 H2} q => q.trans p1.post.good ⟨Post.setNo q.post.good, set_fix hiZ⟩
    generalize hr : execX L x h (env1.set i .no) = r at w3
    cases r with
    | bad => exact w3
    | ex y e2 => exact w3
    | ok f e2 =>
      simp only [Res.bind_ok] at w3
      cases f with
      | nx => exact fun σ2 U2 H2 q => w3 _ _ _ (fin q)
      | bk => exact fun σ2 U2 H2 q => w3 _ _ _ (fin q)
      | ct => exact fun σ2 U2 H2 q => w3 _ _ _ (fin q)
      | rt d fr => exact fun v σ2 U2 H2 q rv => w3 v _ _ _ (fin q) rv
  · exact w1.elim
theorem Hds.wm (hxf : ∀ x cls dx U H, B.XR x cls dx U H → XFd x dx H) {D : Ends} : ∀ {hds : List ExceptHandler} {hs : List (Nat × Option Nat × List XS)} {l : List (Value × Option Nat × (Addr → Value → Option Addr → TS))}, Hds X B Z L hds hs l → ∀ {x : Exc} {env : Env} {σ : Sg} {U : Addr → Prop} {H : Hp} {cls : Value} {dx : Option Addr},
    Gd B.K B.F σ env U H → B.XR x cls dx U H → WpS B Z σ env U H (catchX L x hs env) D → wMix X.K B.W D l cls dx σ H
  | _, _, _, .nil, x, env, σ, U, H, cls, dx, g, r, w => by
    simp only [catchX] at w
    exact w σ U H cls dx (.refl g) r
  | _, _, _, .cons (cx := cx) (h := h) _ hex _ t, x, env, σ, U, H, cls, dx, g, r, w => by
    simp only [catchX] at w
    refine ⟨_, hex x cls dx U H r, fun hb a na => ?_, fun hb => ?_⟩
    · rw [hb] at w
      exact ⟨x, ⟨U, r⟩, ⟨(fun j hj => nomatch hj), hxf _ _ _ _ _ r, env, U, g, w⟩⟩
    · rw [hb] at w
      simp only [Bool.false_eq_true, if_false] at w
      exact t.wm hxf g r w
  | _, _, _, .named (cx := cx) (i := i) (h := h) _ hiZ _ _ hex _ t, x, env, σ, U, H, cls, dx, g, r, w => by
    simp only [catchX] at w
    refine ⟨_, hex x cls dx U H r, fun hb a na => ?_, fun hb => ?_⟩
    · rw [hb] at w
      simp only [if_true] at w
      obtain ⟨hlt, w2⟩ := named_suite (a := a) hiZ g w
      refine ⟨x, ⟨U, r⟩, fun j hj => ?_, hxf _ _ _ _ _ r, env.set i .no, U, (Post.setNo (i := i) (o := some (.ref a)) g).good, w2⟩
      cases hj
      rw [List.getElem?_set_self]
      rw [← g.len]; exact hlt
    · rw [hb] at w
      simp only [Bool.false_eq_true, if_false] at w
      exact t.wm hxf g r w
theorem snd_try_mix {body : List Stmt} {body' : List S} {h₀ : ExceptHandler} {hds : List ExceptHandler} {hs' : List (Nat × Option Nat × List XS)} {l : List (Value × Option Nat × (Addr → Value → Option Addr → TS))} (hs : X.stack = X.env :: X.outer) (hf : X.env.frame = some X.env.locals) (hN : X.N.Nodup)
    (tk : Takes X B.W) (hxf : ∀ x cls dx U H, B.XR x cls dx U H → XFd x dx H)
    (hb : ∀ (W : WX) (pn : List (Addr × Obj)) (xe : Value → Shared → Prop), Takes (X.tr pn xe) W → PassesOwn (model X.prog X.w) X.A X.env xe → PSs (X.tr pn xe) body (rdSs (B.with W) Z L body'))
    (hh : Hds X B Z L (h₀ :: hds) hs' l) : PS X (.Try body (h₀ :: hds) [] [] pos) (rdS B Z L (.tr body' hs')) := by
  refine (ps_try_mix (tb := fun W => rdSs (B.with W) Z L body') hs hf hN tk hb hh.ok).imp fun D σ H ⟨env, U, g, w⟩ => ?_
  rw [exec_tr] at w
  exact ⟨env, U, g, WpS.with w (fun x env1 σ' U' H' cls dx p r w1 => hh.wm hxf p.post.good r w1) g⟩
end
end Pi

set_option Elab.async false
set_option linter.all false
set_option maxRecDepth 100000
set_option maxHeartbeats 4000000
/-! PiN: defs. -/
namespace Pi
open PySem PySem.Spec PyProof.Rows L2
variable [HasT]

theorem borOk_get : ∀ {as : List Sl} {bs : List Bool} {i : Nat} {l : Bool} {d : D}, borOk as bs = true → as[i]? = some (.ow l d) → bs[i]? = some true
  | [], _, _, _, _, _, e => by simp at e
  | .ow l d :: r, [], i, _, _, h, _ => by simp [borOk] at h
  | .ow l d :: r, b :: bs, 0, _, _, h, _ => by
    simp only [borOk, Bool.and_eq_true] at h
    simp [h.1]
  | .ow l d :: r, b :: bs, i + 1, _, _, h, e => by
    simp only [borOk, Bool.and_eq_true] at h
    simp only [List.getElem?_cons_succ] at e ⊢
    exact borOk_get h.2 e
  | .sh d :: r, bs, 0, _, _, h, e => by simp at e
  | .no :: r, bs, 0, _, _, h, e => by simp at e
  | .sh d :: r, bs, i + 1, _, _, h, e => by
    simp only [borOk] at h
    simp only [List.getElem?_cons_succ] at e
    have := borOk_get h e
    cases bs with
    | nil => simp at this
    | cons b bs => simpa using this
  | .no :: r, bs, i + 1, _, _, h, e => by
    simp only [borOk] at h
    simp only [List.getElem?_cons_succ] at e
    have := borOk_get h e
    cases bs with
    | nil => simp at this
    | cons b bs => simpa using this
section
variable {K : PySem.W.Frag} {U : Addr → Prop} {H : Hp} {vs : List V} {as : List Sl} {m : Nat}
theorem get_pad {i : Nat} {s : Sl} (h : (as ++ List.replicate m Sl.no)[i]? = some s) (n : s ≠ .no) : as[i]? = some s := by
  rw [List.getElem?_append] at h
  split at h
  · exact h
  · rw [List.getElem?_replicate] at h
    split at h
    · cases h; exact absurd rfl n
    · cases h
theorem sg_pad {i : Nat} {v : V} (h : (sgOf vs)[i]? = some (some v)) : (sgOf vs ++ List.replicate m (none : Option V))[i]? = some (some v) := by
  rw [List.getElem?_append_left (List.getElem?_eq_some_iff.mp h).1]
  exact h
theorem sg_pad' {i : Nat} {v : V} (h : (sgOf vs ++ List.replicate m (none : Option V))[i]? = some (some v)) : (sgOf vs)[i]? = some (some v) := by
  rw [List.getElem?_append] at h
  split at h
  · exact h
  · rw [List.getElem?_replicate] at h
    split at h <;> cases h
theorem own_pad {b : Addr} : Own (sgOf vs ++ List.replicate m none) (as ++ List.replicate m .no) b ↔ Own (sgOf vs) as b := by
  constructor
  · rintro ⟨i, l, d, e, s⟩
    exact ⟨i, l, d, get_pad e (by simp), sg_pad' s⟩
  · rintro ⟨i, l, d, e, s⟩
    refine ⟨i, l, d, ?_, sg_pad s⟩
    rw [List.getElem?_append_left (List.getElem?_eq_some_iff.mp e).1]
    exact e
theorem gd_start (A : ArgsOk K U H vs as) : Gd K (fun b => H b = none) (sgOf vs ++ List.replicate m none) (as ++ List.replicate m .no) U H := by
  have g := A.good
  refine ⟨by simp [g.len], fun i d e => ?_, fun i l d e => ?_, fun i j l l' d d' a e e' s s' => ?_, g.live, fun _ h => h, g.tab⟩
  · obtain ⟨v, e1, r⟩ := g.sh i d (get_pad e (by simp))
    exact ⟨v, sg_pad e1, r⟩
  · have e := get_pad e (by simp)
    obtain ⟨a, e1, u, o, _⟩ := g.ow i l d e
    exact ⟨a, sg_pad e1, u, o, fun h => by rw [A.fl i l d e] at h; cases h⟩
  · exact g.inj i j l l' d d' a (get_pad e (by simp)) (get_pad e' (by simp)) (sg_pad' s) (sg_pad' s')
end
def fnB (K : PySem.W.Frag) (H : Hp) (E : XK) (XR : XRt) : Sx := ⟨K, fun b => H b = none, fun cls d _ H' => E cls d H', XR⟩
/-- the code object of a def -/
def CodeOf (K : PySem.W.Frag) (fa : Addr) (cdv : Value) : Prop := ∃ (oc : Value) (od : Option Addr) (fd : FuncData) (osl : Array (Option Value)), K.lookup fa = some ⟨oc, od, .func fd, osl⟩ ∧ fd.code = cdv
theorem fn_ok {P : Program} {w : World} {K : PySem.W.Frag} {mg : Str → Option Value} {base : Heap} {x qual : Str} {prm : Arguments} {body : List Stmt} {scope : Scope} {dvs : List V} {kws : List (Str × V)} {fa : Addr} {fd : FuncData} {N ps : List Str} {k n f : Nat} {fn : Fn} {Z : List Nat} {G : Pg} {XR : XRt}
    (F : FunD K x qual prm body scope dvs kws fa fd) (S : FnScope N ps scope) (hf : G.G[f]? = some fn) (hnp : fn.np = ps.length) (hnl : fn.nl = N.length) (hle : ps.length ≤ N.length) (hbor : ∀ i, fn.bor[i]? = some true → i ∉ Z)
    (hbody : ∀ (cdv : Value), CodeOf K fa cdv → ∀ (A : Around) (outer : List PySem.Env) (s : Shared) (H : Hp) (E : XK), Room k (A.deeper (envOfC qual scope s.heap.objs.size fa cdv)) →
      PSs (cxOf (L2.CX P w) P w K mg base N qual scope fa cdv A outer s H E) body (rdSs (fnB K H E XR) Z (G.lib (callF G n)) fn.body)) :
    FnOk P w K mg base (L2.CX P w) (k + 1) fa fd ps (spF K XR ps.length (callF G (n + 1) f)) := by
  obtain ⟨oc, od, dV, kV, doc, pm, an, cdv, ct, osl, rfl, lk, hcd, _, _⟩ := F.ex
  refine fn_of lk hcd S (fun vs H Q E ⟨as, U, h, _⟩ => h) fun A outer s H vs Q E hr ⟨as, U, hl, hal, A0, h⟩ => ⟨_, hbody cdv ⟨_, _, _, _, lk, rfl⟩ A outer s H E hr, ?_⟩
  simp only [callF, hf] at h
  by_cases hb : borOk as fn.bor = true
  case neg => rw [if_neg (fun z => hb z.2)] at h; exact h.elim
  rw [if_pos ⟨by rw [hal, hnp], hb⟩] at h
  have hlen : as.length = vs.length := by rw [hal, hl]
  have hm : fn.nl - fn.np = N.length - vs.length := by rw [hnl, hnp, hl]
  rw [hm] at h
  have hst : start N vs = sgOf vs ++ List.replicate (N.length - vs.length) none := rfl
  have g : Gd K (fun b => H b = none) (start N vs) (as ++ List.replicate (N.length - vs.length) .no) U H := by rw [hst]; exact gd_start A0
  refine ⟨_, U, g, ?_⟩
  have elen : (as ++ List.replicate (N.length - vs.length) Sl.no).length = N.length := by simp; omega
  -- what a way out has kept
  have tr : ∀ {σ' : Sg} {env' : Env} {U' : Addr → Prop} {H' : Hp}, PostS (fnB K H E XR) Z (start N vs) (as ++ List.replicate (N.length - vs.length) .no) U H σ' env' U' H' → Tr (Own (sgOf vs) as) U H U' H' := fun {σ' env' U' H'} p => by
    have e : Own (start N vs) (as ++ List.replicate (N.length - vs.length) Sl.no) = Own (sgOf vs) as := by
      funext b
      exact propext (by rw [hst]; exact own_pad)
    have := p.post.tr
    rw [e] at this
    exact this
  have cp : ∀ {σ' : Sg} {env' : Env} {U' : Addr → Prop} {H' : Hp}, PostS (fnB K H E XR) Z (start N vs) (as ++ List.replicate (N.length - vs.length) .no) U H σ' env' U' H' → fn.np ≤ env'.length → CPost K U H vs as (env'.take fn.np) U' H' := fun {σ' env' U' H'} p hle2 => by
    have fixed : ∀ (i : Nat) (l : Bool) (d : Pi.D), as[i]? = some (.ow l d) → σ'[i]? = (sgOf vs)[i]? := fun i l d e => by
      rw [p.fix i (hbor i (borOk_get hb e)), hst, List.getElem?_append_left]
      have := (List.getElem?_eq_some_iff.mp e).1
      rw [List.length_map]; omega
    have inn : ∀ {i : Nat} {s0 : Sl}, (env'.take fn.np)[i]? = some s0 → env'[i]? = some s0 := fun {i s0} e => by
      rw [List.getElem?_take] at e
      split at e
      · exact e
      · cases e
    refine ⟨tr p, p.post.good.live, fun i l l' d d' e e' => ?_, fun i l d d' e e' => ?_, ?_⟩
    · obtain ⟨a, e1, u, o, _⟩ := p.post.good.ow i l' d' (inn e')
      rw [fixed i l d e] at e1
      exact ⟨a, sg_get.mp e1, u, o⟩
    · obtain ⟨v, e1, r⟩ := p.post.good.sh i d' (inn e')
      rw [fixed i l d e] at e1
      exact ⟨v, sg_get.mp e1, r⟩
    · rw [List.length_take, hal, hnp]; omega
  cases hr : execs (G.lib (callF G n)) fn.body (as ++ List.replicate (N.length - vs.length) .no) with
  | bad => rw [hr] at h; exact h
  | ex y e =>
    rw [hr] at h
    exact fun σ' U' H' c dx p r => h c dx U' H' (tr p) p.post.good.live r
  | ok fl e =>
    rw [hr] at h
    cases fl with
    | nx =>
      intro σ' U' H' p
      simp only [outF] at h
      by_cases hle2 : fn.np ≤ e.length
      · rw [if_pos hle2] at h
        exact h .non U' H' (cp p hle2) .non
      · rw [if_neg hle2] at h
        exact h.elim
    | bk => exact h.elim
    | ct => exact h.elim
    | rt d fr =>
      intro v σ' U' H' p r
      simp only [outF] at h
      by_cases hle2 : fn.np ≤ e.length
      case neg => rw [if_neg hle2] at h; exact h.elim
      rw [if_pos hle2] at h
      refine h v U' H' (cp p hle2) ?_
      cases fr with
      | false => exact r
      | true =>
        obtain ⟨a, e1, u, o, f⟩ := r
        exact ⟨a, e1, u, o, f⟩
end Pi

set_option Elab.async false
set_option linter.all false
set_option maxRecDepth 100000
set_option maxHeartbeats 4000000
/-! PiO: from the text's trees to the interpreter's: expressions. -/
namespace Pi
open PySem PySem.Spec PyProof.Rows L2
variable [HasT]

/-- what a text's names stand for: defs (with the ways they are called), built-ins that nothing hides, own errors, constants -/
structure Tab where
  fns : List (Str × Nat × List (Nat × List Str × List Nat))
  blt : List Str
  cls : List (Str × Nat)
  con : List (Str × Nat)
  gcd : Bool
  dic : List (Str × Nat)
  lcm : Bool := false
  lam : Option Str := none
  fld : List (Str × Nat × Str) := []
structure CG where
  T : Tab
  N : List Str
  Z : List Nat
  lam : Bool := false
def glB (sc : Scope) (x : Str) : Bool := match sc.names.lookup x with | some .globalImplicit => true | _ => false
def visB (sc : Scope) (x : Str) : Bool := match sc.names.lookup x with | some .local => true | some .cell => true | some .free => true | _ => false
def locB (sc : Scope) (x : Str) : Bool := match sc.names.lookup x with | some .local => true | some .cell => true | _ => false
def okN (x : Str) : Bool := !(x == ("__debug__" : Str)) && !(x == ("__classdict__" : Str))
def idxN (N : List Str) (x : Str) : Option Nat := (N.findIdx? fun y => decide (y = x)).bind fun i => if N[i]? = some x then some i else none
theorem idxN_ok {N : List Str} {x : Str} {i : Nat} (h : idxN N x = some i) : N[i]? = some x := by
  unfold idxN at h
  cases hf : N.findIdx? (fun y => decide (y = x)) with
  | none => rw [hf] at h; cases h
  | some j =>
    rw [hf] at h
    simp only [Option.bind_some] at h
    split at h
    · cases h; assumption
    · cases h
theorem visB_ok {sc : Scope} {x : Str} (h : visB sc x = true) : Vis sc x := by
  unfold visB at h
  split at h
  · exact .inl ‹_›
  · exact .inr (.inl ‹_›)
  · exact .inr (.inr ‹_›)
  · cases h
theorem locB_ok {sc : Scope} {x : Str} (h : locB sc x = true) : L2.Loc sc x := by
  unfold locB at h
  split at h
  · exact .inl ‹_›
  · exact .inr ‹_›
  · cases h
theorem glB_ok {sc : Scope} {x : Str} (h : glB sc x = true) : sc.names.lookup x = some .globalImplicit := by
  unfold glB at h
  split at h
  · assumption
  · cases h
theorem okN_ok {x : Str} (h : okN x = true) : (x == ("__debug__" : Str)) = false ∧ (x == ("__classdict__" : Str)) = false := by
  unfold okN at h
  simp only [Bool.and_eq_true, Bool.not_eq_true'] at h
  exact h

def conD : Const → Option D
  | .none => some .non
  | .bool b => some (.bl b)
  | .int i => some (.int i)
  | .str s => if PyData.strOk s = true ∧ s.length ≤ 100000 then some (.str s) else none
  | _ => none
def tyS (x : Str) : Option Ty := if x = ("int" : Str) then some .int else if x = ("bool" : Str) then some .bool else if x = ("str" : Str) then some .str else if x = ("tuple" : Str) then some .tuple else if x = ("list" : Str) then some .list else none
/-- a built-in: whether it is a type -/
def biS (x : Str) : Option (Bi × Bool) := if x = ("len" : Str) then some (.len, false) else if x = ("abs" : Str) then some (.abs, false) else if x = ("int" : Str) then some (.int, true) else if x = ("max" : Str) then some (.max, false)
  else if x = ("min" : Str) then some (.min, false) else if x = ("all" : Str) then some (.all, false) else if x = ("any" : Str) then some (.any, false) else if x = ("sum" : Str) then some (.sum, false)
  else if x = ("list" : Str) then some (.list, true) else if x = ("tuple" : Str) then some (.tuple, true) else none
theorem tyS_ok {x : Str} {t : Ty} (h : tyS x = some t) : bootBuiltins x = some (.type t.n) ∧ x ≠ "__name__" ∧ (x == ("__debug__" : Str)) = false := by
  unfold tyS at h
  repeat' split at h
  all_goals (first | (cases h; done) | (subst_vars; cases h; exact ⟨by decide +kernel, by decide, by decide⟩))
theorem biS_ok {x : Str} {f : Bi} {b : Bool} (h : biS x = some (f, b)) : bootBuiltins x = some f.val ∧ x ≠ "__name__" ∧ (x == ("__debug__" : Str)) = false ∧ (b = true → ∃ T, f.val = .type T) ∧ (b = false → ∃ T, f.val = .builtin T) := by
  unfold biS at h
  repeat' split at h
  all_goals (first | (cases h; done) | (subst_vars; cases h; exact ⟨by decide +kernel, by decide, by decide, fun h => by first | exact ⟨_, rfl⟩ | (cases h; done), fun h => by first | exact ⟨_, rfl⟩ | (cases h; done)⟩))

def compL (f : Expr → Option E) : List Expr → Option (List E)
  | [] => some []
  | e :: es => (f e).bind fun x => (compL f es).map (x :: ·)
def mkBo : BoolOp → E → E → E
  | .And, a, b => .and a b
  | .Or, a, b => .or a b
def compBo (f : Expr → Option E) (op : BoolOp) : List Expr → Option E
  | [] => none
  | [e] => f e
  | e :: es => (f e).bind fun a => (compBo f op es).map fun b => mkBo op a b
def compKw (f : Expr → Option E) : List Keyword → Option (List Str × List E)
  | [] => some ([], [])
  | k :: r => match k.arg with
    | some n => (f k.value).bind fun a => (compKw f r).map fun p => (n :: p.1, a :: p.2)
    | none => none
def compNs (N : List Str) (sc : Scope) : List Expr → Option (List Nat)
  | [] => some []
  | .Name x _ :: r => if locB sc x = true then (idxN N x).bind fun i => (compNs N sc r).map (i :: ·) else none
  | _ :: _ => none
def compTg (N : List Str) (sc : Scope) : Expr → Option Tg
  | .Name x _ => if locB sc x = true then (idxN N x).map .name else none
  | .Tuple es _ _ => (compNs N sc es).map .tup
  | _ => none
def bltB (T : Tab) (sc : Scope) (x : Str) : Bool := glB sc x && decide (x ∈ T.blt)
def compTys (T : Tab) (sc : Scope) : List Expr → Option (List Ty)
  | [] => some []
  | .Name x _ :: r => if bltB T sc x = true then (tyS x).bind fun t => (compTys T sc r).map (t :: ·) else none
  | _ :: _ => none
def isTup : Expr → Bool
  | .Tuple _ _ _ => true
  | _ => false
def compI (f : Expr → Option E) (T : Tab) (sc : Scope) (tg it : Expr) : Option (ItK × List E) := match it with
  | .Call (.Name x _) [a] [] _ =>
    if bltB T sc x = true ∧ x = ("range" : Str) then (f a).map fun a' => (.range, [a'])
    else if bltB T sc x = true ∧ x = ("enumerate" : Str) ∧ isTup tg = true then (f a).map fun a' => (.enum, [a'])
    else (f it).map fun a' => (.seq, [a'])
  | .Call (.Name x _) [a, b] [] _ =>
    if bltB T sc x = true ∧ x = ("range" : Str) then (f a).bind fun a' => (f b).map fun b' => (.range, [a', b'])
    else if bltB T sc x = true ∧ x = ("zip" : Str) ∧ isTup tg = true then (f a).bind fun a' => (f b).map fun b' => (.zip, [a', b'])
    else (f it).map fun a' => (.seq, [a'])
  | _ => (f it).map fun a' => (.seq, [a'])
def ownOf (N : List Str) (scope : Scope) : List (Str × Nat) := scope.names.filterMap fun p => match p.2 with
  | .local => (idxN N p.1).map fun i => (p.1, i)
  | .cell => (idxN N p.1).map fun i => (p.1, i)
  | _ => none
/-- the arguments of a range that is the only argument -/
def rngOf (T : Tab) (sc : Scope) : List Expr → Option (List Expr)
  | [.Call (.Name r _) ras [] _] => if bltB T sc r = true ∧ r = ("range" : Str) then some ras else none
  | _ => none
def listy (x : Str) : Option Bool := if x = ("list" : Str) then some false else if x = ("tuple" : Str) then some true else none
def compRng (f : Expr → Option E) (T : Tab) (sc : Scope) (x : Str) (es : List Expr) (kws : List Keyword) : Option E := match listy x, rngOf T sc es, kws with
  | some t, some [a], [] => if bltB T sc x = true then (f a).map fun a' => .rng t [a'] else none
  | some t, some [a, b], [] => if bltB T sc x = true then (f a).bind fun a' => (f b).map fun b' => .rng t [a', b'] else none
  | _, _, _ => none
def compCall (f : Expr → Option E) (T : Tab) (sc : Scope) (x : Str) (es : List Expr) (kws : List Keyword) : Option E :=
  match compRng f T sc x es kws with
  | some e => some e
  | none =>
  if bltB T sc x = true ∧ x = ("isinstance" : Str) then
    match es, kws with
    | [a, .Name t _], [] => if bltB T sc t = true then (tyS t).bind fun t' => (f a).map fun a' => .isin a' [t'] else none
    | [a, .Tuple ts _ _], [] => (compTys T sc ts).bind fun ts' => if ts'.length ≤ 1000 then (f a).map fun a' => .isin a' ts' else none
    | _, _ => none
  else match biS x with
    | some (b, _) => if bltB T sc x = true ∧ kws.isEmpty = true ∧ es.isEmpty = false then (compL f es).map (.bi b) else none
    | none =>
      if T.gcd = true ∧ glB sc x = true ∧ x = ("gcd" : Str) ∧ kws.isEmpty = true ∧ es.isEmpty = false then (compL f es).map (.bi .gcd)
      else if T.lcm = true ∧ glB sc x = true ∧ x = ("lcm" : Str) ∧ kws.isEmpty = true ∧ es.isEmpty = false then (compL f es).map (.bi .lcm)
      else if glB sc x = true ∧ okN x = true then match T.fns.lookup x with
        | some (fi, pats) => (compL f es).bind fun es1 => (compKw f kws).bind fun p =>
            (pats.find? fun q => decide (q.1 = es1.length ∧ q.2.1 = p.1)).map fun q => .call fi (es1 ++ p.2) q.2.2
        | none => none
      else none
def compO (f : Expr → Option E) : Option Expr → Option E
  | none => some (.con .non)
  | some e => (f e).bind fun x => match x with
    | .con .non => none
    | _ => some x
/-- list({x: True for x in e}); sorted(xs, key=lambda y: y[0] * (m // y[1])) -/
def compSp (f : Expr → Option E) (G : CG) (sc : Scope) (x : Str) (es : List Expr) (kws : List Keyword) : Option E := match es, kws with
  | [.DictComp (.Name y _) (.Constant (.bool true) _ _) [⟨.Name y2 _, it, [], 0⟩] scope _], [] =>
    if x = ("list" : Str) ∧ bltB G.T sc x = true ∧ y2 = y ∧ uqSc scope y = true ∧ okN y = true then (f it).map .uniq else none
  | [a], [⟨some key, .Lambda ⟨[], [⟨y, none, _⟩], none, [], [], none, []⟩ (.BinOp (.Subscript (.Name y1 _) (.Constant (.int 0) _ _) _) .Mult (.BinOp (.Name m _) .FloorDiv (.Subscript (.Name y2 _) (.Constant (.int 1) _ _) _) _) _) ls _, _⟩] =>
    if G.lam = true ∧ x = ("sorted" : Str) ∧ bltB G.T sc x = true ∧ key = ("key" : Str) ∧ y = ("number" : Str) ∧ y1 = y ∧ y2 = y ∧ lamSc sc ls y m = true then (f a).bind fun a' => (idxN G.N m).map fun i => .sortk a' i else none
  | _, _ => none
def stepE (G : CG) (cE : Scope → Expr → Option E) (sc : Scope) (e : Expr) : Option E := match e with
  | .Name x _ => if okN x = true then (if visB sc x = true then (idxN G.N x).map .var else if glB sc x = true then (G.T.con.lookup x).map .glo else none) else none
  | .Constant c _ _ => (conD c).map .con
  | .BinOp a op b _ => (bopOf op).bind fun o => (cE sc a).bind fun x => (cE sc b).map fun y => .bin o x y
  | .Compare a [op] [b] _ => if behindInMarks op b = true then none else (cE sc a).bind fun x => (cE sc b).map fun y => .cmp (copOf op) x y
  | .Compare a [op, op'] [b, c] _ => if lastMarks [op, op'] [b, c] = true then none else (cE sc a).bind fun x => (cE sc b).bind fun y => (cE sc c).map fun z => .chn (copOf op) (copOf op') x y z
  | .UnaryOp .USub a _ => (cE sc a).map .neg
  | .UnaryOp .Not a _ => (cE sc a).map .not
  | .BoolOp op (a :: b :: r) _ => compBo (cE sc) op (a :: b :: r)
  | .IfExp c a b _ => (cE sc c).bind fun z => (cE sc a).bind fun x => (cE sc b).map fun y => .ite z x y
  | .Tuple es _ _ => (compL (cE sc) es).bind fun xs => if xs.length ≤ 1000 then some (.tup xs) else none
  | .List es _ => (compL (cE sc) es).bind fun xs => if xs.length ≤ 1000 then some (.lst xs) else none
  | .Subscript a (.Slice none none (some (.UnaryOp .USub (.Constant (.int 1) _ _) _)) _) _ => (cE sc a).map .rev
  | .Subscript a (.Slice lo hi none _) _ => (cE sc a).bind fun x => (compO (cE sc) lo).bind fun l => (compO (cE sc) hi).map fun h => .cut x l h
  | .Subscript (.Name x p) (.Tuple es k tp) _ => (match (if glB sc x = true ∧ okN x = true then G.T.dic.lookup x else none) with
    | some g => (cE sc (.Tuple es k tp)).map (.gdx g)
    | none => (cE sc (.Name x p)).bind fun x => (cE sc (.Tuple es k tp)).map fun y => .ix x y)
  | .Subscript a i _ => (cE sc a).bind fun x => (cE sc i).map fun y => .ix x y
  | .Call (.Name x _) es kws _ => (match compSp (cE sc) G sc x es kws with
    | some e => some e
    | none => compCall (cE sc) G.T sc x es kws)
  | .Call (.Attribute (.Name x p) nm ap) [e] [] cp => if nm = ("index" : Str) ∧ (ap.endLine == cp.line) = true then (cE sc (.Name x p)).bind fun a => (cE sc e).map fun b => .idx a b else none
  | .ListComp elt [g] scope _ => if g.is_async = 0 ∧ blkC G.N sc scope (ownOf G.N scope) = true ∧ g.ifs.length ≤ 1 then
      (compTg G.N scope g.target).bind fun tg => if ∀ i ∈ tg.slots, i ∈ (ownOf G.N scope).map (·.2) then
        (compI (cE sc) G.T sc g.target g.iter).bind fun ki => (compL (cE (relS scope sc)) g.ifs).bind fun cs => (cE (relS scope sc) elt).map fun x => .lc x ((ownOf G.N scope).map (·.2)) tg ki.1 ki.2 cs
      else none
    else none
  | .ListComp elt [g, g1] scope _ => if g.is_async = 0 ∧ g1.is_async = 0 ∧ blkC G.N sc scope (ownOf G.N scope) = true ∧ g.ifs.length ≤ 1 ∧ g1.ifs.length ≤ 1 then
      (compTg G.N scope g.target).bind fun tg => (compTg G.N scope g1.target).bind fun tg1 => if (∀ i ∈ tg.slots, i ∈ (ownOf G.N scope).map (·.2)) ∧ (∀ i ∈ tg1.slots, i ∈ (ownOf G.N scope).map (·.2)) then
        (compI (cE sc) G.T sc g.target g.iter).bind fun ki => (compL (cE (relS scope sc)) g.ifs).bind fun cs =>
          (compI (cE (relS scope sc)) G.T (relS scope sc) g1.target g1.iter).bind fun ki1 => (compL (cE (relS scope sc)) g1.ifs).bind fun cs1 =>
            (cE (relS scope sc) elt).map fun x => .lc2 x ((ownOf G.N scope).map (·.2)) tg ki.1 ki.2 cs tg1 ki1.1 ki1.2 cs1
      else none
    else none
  | _ => none

def compE (G : CG) : Nat → Scope → Expr → Option E
  | 0 => fun _ _ => none
  | m + 1 => stepE G (compE G m)

/-! ### what the names are -/
structure ClsOk (K : PySem.W.Frag) (mg : Str → Option Value) (XR : XRt) (L : Lib) (x : Str) (c : Nat) (Ca : Addr) : Prop where
  glob : mg x = some (.ref Ca)
  keep : PySem.W.keepIn K (.ref Ca) = true
  sub : PySem.W.subIn K (.ref Ca) (.type "BaseException") = some true
  typ : PySem.W.typeIn K (.ref Ca) = some (.type "type")
  hd : ∀ x cls dx U H, XR x cls dx U H → PySem.W.exmOne K cls (.ref Ca) = some (L.sub x.cls c)
  isi : ∀ x cls dx U H, XR x cls dx U H → x.fld = none → dx = none ∧ ∃ DD, cls = .ref DD ∧ ExcC K DD ∧ PySem.W.kitOne K (.ref DD) (.ref Ca) = some (L.sub x.cls c)
/-- an own error that is made with a text -/
structure MkOk (K : PySem.W.Frag) (XR : XRt) (c : Nat) (Ca : Addr) : Prop where
  make : ∃ (B newId initId : String) (bmB : List Value), ExcBaseFacts B newId initId bmB ∧ PySem.W.excIn K Ca bmB newId = true
  mkx : ∀ U H, XR ⟨c, none⟩ (.ref Ca) none U H
structure TabOk (T : Tab) (P : Program) (w : World) (K : PySem.W.Frag) (mg : Str → Option Value) (base : Heap) (XR : XRt) (L : Lib) (n : Nat) : Prop where
  fn : ∀ x f pats, T.fns.lookup x = some (f, pats) → ∃ fa fd ps, FnOk P w K mg base (L2.CX P w) n fa fd ps (spF K XR ps.length (L.C f)) ∧ mg x = some (.ref fa) ∧ PySem.W.keepIn K (.ref fa) = true ∧ (L.bor f).length = ps.length ∧
    ∀ m ks pm, (m, ks, pm) ∈ pats → BindsP fd ps m ks pm ∧ pm.length = ps.length ∧ ∀ k ∈ pm, k < m + ks.length
  blt : ∀ x ∈ T.blt, mg x = none
  gcd : T.gcd = true → mg "gcd" = some (.builtin "math.gcd")
  cls : ∀ x c, T.cls.lookup x = some c → ∃ Ca, ClsOk K mg XR L x c Ca ∧ (T.fld.lookup x = none → MkOk K XR c Ca)
  con : ∀ x k, T.con.lookup x = some k → ∃ u v d, mg x = some u ∧ RelV v u ∧ L.con k = some d ∧ ∀ U H, Rep K U H v d
  lcm : T.lcm = true → mg "lcm" = some (.builtin "math.lcm")
  fldc : ∀ x c f, (x, c, f) ∈ T.fld → ∃ Ca, mg x = some (.ref Ca) ∧ FldOk P w K mg base 1 f Ca ∧ ∀ d v dx U H, FlV d v → H dx = some (.xd [(f, v)]) → XR ⟨c, some (f, d)⟩ (.ref Ca) (some dx) U H
  xf : ∀ x cls dx U H, XR x cls dx U H → XFd x dx H
  xfc : ∀ x cls dx U H, XR x cls dx U H → ∃ DD, cls = .ref DD ∧ ∀ f d, x.fld = some (f, d) → XfC K DD ∧ PySem.W.findIn K (.ref DD) f = some none
  dic : ∀ x k, T.dic.lookup x = some k → ∃ u kvs, mg x = some u ∧ L.dic k = some kvs ∧ DicIs P w K kvs u
structure Cn (G : CG) (sc : Scope) (X : Cx) (B : Sx) (L : Lib) (n : Nat) : Prop where
  N : X.N = G.N
  nd : G.N.Nodup
  scp : X.env.scope = sc
  K : X.K = B.K
  calm : X.calm = true
  room : Room n X.A
  tk : Takes X B.W
  T : TabOk G.T X.prog X.w X.K X.mg X.base B.XR L n
  big : 2 ≤ n
  lam : G.lam = true → ∃ c P, X.env.code = .ref c ∧ LamX.TabB X.base X.mg c P ∧ HasT.T = [(P, X.env.qual ++ "<lambda>")]
structure Snd (X : Cx) (B : Sx) (L : Lib) (e : Expr) (e' : E) : Prop where
  pe : PE X e (rdE B L e')
  pa : PE X e (rdA B L e')
  pt : PT X e (rdT B L e')
section
variable {X : Cx} {B : Sx} {L : Lib} {e a b c : Expr} {e' a' b' c' : E} {pos : Pos} {G : CG} {sc : Scope} {n : Nat}
theorem Snd.of (hK : X.K = B.K) (hv : ∀ i, e' ≠ .var i) (he : PE X e (rdE B L e')) (hp : ∀ whole, isTrue e X.env whole = (do let v ← whole; standAt e.pos; holding [v] (truthy v))) : Snd X B L e e' :=
  ⟨he, snd_arg hv he, snd_T hK (snd_arg hv he) hp⟩
theorem snd_PTite (hc : PT X c (rdT B L c')) (ha : PT X a (rdT B L a')) (hb : PT X b (rdT B L b')) : PT X (.IfExp c a b pos) (rdT B L (.ite c' a' b')) := by
  refine ⟨fun pins s σ H Q I ⟨env, U, g, h⟩ => ?_⟩
  rw [tst_nv (by simp)] at h
  have e : eval L (.ite c' a' b') env = (tst L c' env).bind fun k e => if k then eval L a' e else eval L b' e := by
    simp only [eval, tst, Res.bind_assoc]
    congr 1
    funext x e1
    cases x.peek e1 with
    | none => rfl
    | some d => rfl
  rw [e, Res.bind_assoc] at h
  refine isTrue_IfExp (thn (hc.run pins s σ H (fun k H1 => if k = true then rdT B L a' σ H1 Q else rdT B L b' σ H1 Q) I ⟨env, U, g, (Wp.bind g h).imp fun k env1 U1 H1 _ p1 h1 => ?_⟩) fun k s1 ⟨H1, I1, q⟩ => ?_)
  · cases k with
    | true => exact ⟨env1, U1, p1.good, tst_eval p1.good h1⟩
    | false => exact ⟨env1, U1, p1.good, tst_eval p1.good h1⟩
  · cases k with
    | true => exact ha.run pins s1 σ H1 Q I1 q
    | false => exact hb.run pins s1 σ H1 Q I1 q
theorem snd_glo {x : Str} {k : Nat} {u : Value} {v : V} {d : D} (hg : Gl X x) (hm : X.mg x = some u) (r : RelV v u) (hd : (x == ("__debug__" : Str)) = false) (hk : L.con k = some d) (rep : ∀ U H, Rep B.K U H v d) : PE X (.Name x pos) (rdE B L (.glo k)) := by
  refine (pe_glob hg hm r hd).imp fun σ H Q ⟨env, U, g, h⟩ => ?_
  simp only [eval, hk, Option.map_some, pureR_some] at h
  exact h U H (.refl g) v (rep U H)
theorem compE_star {m : Nat} (h : compE G m sc e = some e') (r : List Expr) (env : PySem.Env) : starEach (e :: r) env = (false, PySem.eval e env) :: starEach r env := by
  cases m with
  | zero => simp [compE] at h
  | succ m =>
    cases e <;> first | rfl | (simp [compE, stepE] at h; done)
theorem compE_fold {m : Nat} (h : compE G m sc e = some e') (env : PySem.Env) (x : Value) : foldedSetIterable e env x = pure x := by
  cases m with
  | zero => simp [compE] at h
  | succ m =>
    cases e <;> first | rfl | (simp [compE, stepE] at h; done)
theorem compE_ix {m : Nat} (h : compE G m sc e = some e') : PlainIx e := by
  cases m with
  | zero => simp [compE] at h
  | succ m =>
    cases e <;> first | exact fun _ _ => rfl | (simp [compE, stepE] at h; done)
end
end Pi

set_option Elab.async false
set_option linter.all false
set_option maxRecDepth 100000
set_option maxHeartbeats 4000000
/-! PiP: the expressions' trees keep to the interpreter's. -/
namespace Pi
open PySem PySem.Spec PyProof.Rows L2
variable [HasT]

section
variable {X : Cx} {B : Sx} {L : Lib} {G : CG} {sc : Scope} {n : Nat} {pos : Pos} {f : Expr → Option E}
theorem Cn.gl (c : Cn G sc X B L n) {x : Str} (h : glB sc x = true) : Gl X x := by
  show X.env.scope.names.lookup x = _
  rw [c.scp]; exact glB_ok h
theorem Cn.blt (c : Cn G sc X B L n) {x : Str} (h : bltB G.T sc x = true) : Gl X x ∧ X.mg x = none := by
  unfold bltB at h
  rw [Bool.and_eq_true] at h
  exact ⟨c.gl h.1, c.T.blt x (of_decide_eq_true h.2)⟩
theorem Cn.units (c : Cn G sc X B L n) : X.A.units + 65 < cLine := by have := c.room.un; omega
def Fok (X : Cx) (B : Sx) (L : Lib) (f : Expr → Option E) : Prop := ∀ e e', f e = some e' → Snd X B L e e' ∧ (∀ r, starEach (e :: r) X.env = (false, PySem.eval e X.env) :: starEach r X.env) ∧ (∀ x, foldedSetIterable e X.env x = pure x)
theorem compL_ok (ih : Fok X B L f) : ∀ {es : List Expr} {es' : List E}, compL f es = some es' → PA X es (rdAs B L es') ∧ PA X es (rdEs B L es') ∧ es.length = es'.length ∧ (∀ pos, (backTo pos (starEach es X.env)).any (·.1) = false) ∧
    ∀ e r, es = e :: r → starEach (e :: r) X.env = (false, PySem.eval e X.env) :: starEach r X.env
  | [], es', h => by
    simp only [compL] at h; cases h
    exact ⟨snd_nilA, snd_nilE, rfl, fun _ => rfl, fun _ _ h => nomatch h⟩
  | e :: es, es', h => by
    simp only [compL] at h
    cases h1 : f e with
    | none => rw [h1] at h; cases h
    | some a =>
      rw [h1] at h
      cases h2 : compL f es with
      | none => rw [h2] at h; cases h
      | some as =>
        rw [h2] at h
        simp only [Option.bind_some, Option.map_some] at h
        cases h
        obtain ⟨k1, k2, _⟩ := ih e a h1
        obtain ⟨q1, q2, q3, q4, q5⟩ := compL_ok ih h2
        refine ⟨snd_consA k1.pa q1 (k2 es), snd_consE k1.pe q2 (k2 es), by simp [q3], fun pos => ?_, fun e' r' hh => ?_⟩
        · rw [k2 es]
          have := q4 pos
          simp [backTo] at this ⊢
          exact this
        · cases hh; exact k2 es
theorem compL_okF (ih : Fok X B L f) : ∀ {es : List Expr} {es' : List E}, compL f es = some es' → PA X es (rdFs B L es')
  | [], es', h => by
    simp only [compL] at h; cases h
    exact snd_nilF
  | e :: es, es', h => by
    simp only [compL] at h
    cases h1 : f e with
    | none => rw [h1] at h; cases h
    | some a =>
      rw [h1] at h
      cases h2 : compL f es with
      | none => rw [h2] at h; cases h
      | some as =>
        rw [h2] at h
        simp only [Option.bind_some, Option.map_some] at h
        cases h
        obtain ⟨k1, k2, _⟩ := ih e a h1
        exact snd_consF k1.pe (compL_okF ih h2) (k2 es)
theorem compKw_ok (ih : Fok X B L f) : ∀ {ks : List Keyword} {p : List Str × List E}, compKw f ks = some p → PK X ks (rdAs B L p.2) ∧ p.2.length = p.1.length ∧
    (∀ pos, (backToKw pos (keywordEach ks X.env)).all (·.1.isSome) = true ∧ (backToKw pos (keywordEach ks X.env)).filterMap (·.1) = p.1 ∧ (backToKw pos (keywordEach ks X.env)).any (·.1.isNone) = false)
  | [], p, h => by
    simp only [compKw] at h; cases h
    exact ⟨snd_nilK, rfl, fun _ => ⟨rfl, rfl, rfl⟩⟩
  | ⟨nm, v, kp⟩ :: ks, p, h => by
    simp only [compKw] at h
    cases nm with
    | none => cases h
    | some nm =>
      simp only at h
      cases h1 : f v with
      | none => rw [h1] at h; cases h
      | some a =>
        rw [h1] at h
        cases h2 : compKw f ks with
        | none => rw [h2] at h; cases h
        | some q =>
          rw [h2] at h
          simp only [Option.bind_some, Option.map_some] at h
          cases h
          obtain ⟨k1, _, _⟩ := ih v a h1
          obtain ⟨q1, q2, q3⟩ := compKw_ok ih h2
          refine ⟨snd_consK k1.pa q1, by simp [q2], fun pos => ?_⟩
          obtain ⟨r1, r2, r3⟩ := q3 pos
          have e : backToKw pos (keywordEach (⟨some nm, v, kp⟩ :: ks) X.env) = (some nm, do let v ← PySem.eval v X.env; standAt pos; pure v) :: backToKw pos (keywordEach ks X.env) := rfl
          rw [e]
          exact ⟨by rw [List.all_cons, r1]; rfl, by rw [List.filterMap_cons, r2], by rw [List.any_cons, r3]; rfl⟩
theorem compBo_ok (hK : X.K = B.K) (ih : Fok X B L f) {op : BoolOp} : ∀ {es : List Expr} {e' : E}, compBo f op es = some e' → PE X (.BoolOp op es pos) (rdE B L e') ∧ PW X (.BoolOp op es pos) (rdT B L e') ∧ (∀ a b r, es = a :: b :: r → ∀ i, e' ≠ .var i)
  | [], e', h => by simp [compBo] at h
  | [e], e', h => by
    simp only [compBo] at h
    obtain ⟨k1, _, _⟩ := ih e e' h
    refine ⟨pe_one k1.pe, ?_, fun _ _ _ hh => by simp at hh⟩
    cases op with
    | And => exact snd_Wand1 k1.pt
    | Or => exact snd_Wor1 k1.pt
  | e :: e2 :: es, e', h => by
    simp only [compBo] at h
    cases h1 : f e with
    | none => rw [h1] at h; cases h
    | some a =>
      rw [h1] at h
      cases h2 : compBo f op (e2 :: es) with
      | none => rw [h2] at h; cases h
      | some b =>
        obtain ⟨k1, _, _⟩ := ih e a h1
        obtain ⟨q1, q2, _⟩ := compBo_ok hK ih h2
        have h : some (mkBo op a b) = some e' := by rw [h2] at h; exact h
        cases op with
        | And => cases h; exact ⟨snd_and hK k1.pe q1, snd_Wand k1.pt q2, fun _ _ _ _ i => by simp [mkBo]⟩
        | Or => cases h; exact ⟨snd_or hK k1.pe q1, snd_Wor k1.pt q2, fun _ _ _ _ i => by simp [mkBo]⟩
/-- the names a target may be stored to -/
def TgOk (sr : Scope) (X : Cx) : Prop := ∀ x, L2.Loc sr x → L2.Loc X.env.scope x ∧ (X.fn x = true ∨ X.env.scope.names.lookup x = some .local)
theorem compNs_ok {sr : Scope} (ht : TgOk sr X) (c : Cn G sc X B L n) : ∀ {es : List Expr} {is : List Nat}, compNs G.N sr es = some is → PNs X es is
  | [], is, h => by simp only [compNs] at h; cases h; exact .nil
  | e :: es, is, h => by
    cases e <;> first | (simp [compNs] at h; done) | skip
    rename_i x p
    simp only [compNs] at h
    split at h
    · rename_i hl
      cases h1 : idxN G.N x with
      | none => rw [h1] at h; cases h
      | some i =>
        rw [h1] at h
        cases h2 : compNs G.N sr es with
        | none => rw [h2] at h; cases h
        | some js =>
          rw [h2] at h
          simp only [Option.bind_some, Option.map_some] at h
          cases h
          have hL := locB_ok hl
          exact .cons (by rw [c.N]; exact idxN_ok h1) (ht x hL).1 (ht x hL).2 (compNs_ok ht c h2)
    · cases h
theorem compTg_ok {sr : Scope} (ht : TgOk sr X) (c : Cn G sc X B L n) {e : Expr} {tg : Tg} (h : compTg G.N sr e = some tg) : PG X e (rdG B tg) := by
  cases e <;> first | (simp [compTg] at h; done) | skip
  · rename_i x p
    simp only [compTg] at h
    split at h
    · rename_i hl
      cases h1 : idxN G.N x with
      | none => rw [h1] at h; cases h
      | some i =>
        rw [h1] at h
        cases h
        have hL := locB_ok hl
        exact snd_gname (c.N ▸ c.nd) (by rw [c.N]; exact idxN_ok h1) (ht x hL).1 (ht x hL).2
    · cases h
  · rename_i es k p
    simp only [compTg] at h
    cases h2 : compNs G.N sr es with
    | none => rw [h2] at h; cases h
    | some js =>
      rw [h2] at h
      cases h
      exact snd_gtup c.K c.calm (c.N ▸ c.nd) (compNs_ok ht c h2)
theorem compTys_ok (c : Cn G sc X B L n) : ∀ {es : List Expr} {ts : List Ty}, compTys G.T sc es = some ts →
    Paired (fun (e : Expr) (t : Ty) => ∃ tn p, e = .Name tn p ∧ Gl X tn ∧ X.mg tn = none ∧ bootBuiltins tn = some (.type t.n) ∧ tn ≠ "__name__" ∧ (tn == ("__debug__" : Str)) = false) es ts
  | [], ts, h => by simp only [compTys] at h; cases h; exact .nil
  | e :: es, ts, h => by
    cases e <;> first | (simp [compTys] at h; done) | skip
    rename_i x p
    simp only [compTys] at h
    split at h
    · rename_i hb
      cases h1 : tyS x with
      | none => rw [h1] at h; cases h
      | some t =>
        rw [h1] at h
        cases h2 : compTys G.T sc es with
        | none => rw [h2] at h; cases h
        | some js =>
          rw [h2] at h
          simp only [Option.bind_some, Option.map_some] at h
          cases h
          obtain ⟨q1, q2, q3⟩ := tyS_ok h1
          obtain ⟨r1, r2⟩ := c.blt hb
          exact .cons ⟨x, p, rfl, r1, r2, q1, q2, q3⟩ (compTys_ok c h2)
    · cases h
theorem compSeq_ok (c : Cn G sc X B L n) (ih : Fok X B L f) {tg it : Expr} {k : ItK} {es' : List E} (h : (f it).map (fun a' => (ItK.seq, [a'])) = some (k, es')) : PI X tg it (rdI B L k es') ∧ (∀ x, foldedSetIterable it X.env x = pure x) := by
  cases h1 : f it with
  | none => rw [h1] at h; cases h
  | some a =>
    rw [h1] at h
    cases h
    obtain ⟨k1, _, k3⟩ := ih it a h1
    exact ⟨snd_Iseq c.K k1.pa, k3⟩
theorem compI_ok (c : Cn G sc X B L n) (ih : Fok X B L f) {tg it : Expr} {k : ItK} {es' : List E} (h : compI f G.T sc tg it = some (k, es')) : PI X tg it (rdI B L k es') ∧ (∀ x, foldedSetIterable it X.env x = pure x) := by
  unfold compI at h
  split at h
  · rename_i x p a pos
    split at h
    · rename_i hx
      obtain ⟨hx, rfl⟩ := hx
      obtain ⟨r1, r2⟩ := c.blt hx
      cases h1 : f a with
      | none => rw [h1] at h; cases h
      | some a' =>
        rw [h1] at h; cases h
        obtain ⟨k1, k2, _⟩ := ih a a' h1
        exact ⟨snd_Irange1 r1 r2 (snd_consA k1.pa snd_nilA (k2 [])) (k2 []), fun _ => rfl⟩
    · split at h
      · rename_i hx
        obtain ⟨hx, rfl, ht⟩ := hx
        obtain ⟨r1, r2⟩ := c.blt hx
        cases h1 : f a with
        | none => rw [h1] at h; cases h
        | some a' =>
          rw [h1] at h; cases h
          obtain ⟨k1, k2, _⟩ := ih a a' h1
          cases tg <;> first | (simp [isTup] at ht; done) | skip
          exact ⟨snd_Ienum c.K r1 r2 (snd_consA k1.pa snd_nilA (k2 [])) (k2 []), fun _ => rfl⟩
      · exact compSeq_ok c ih h
  · rename_i x p a b pos
    split at h
    · rename_i hx
      obtain ⟨hx, rfl⟩ := hx
      obtain ⟨r1, r2⟩ := c.blt hx
      cases h1 : f a with
      | none => rw [h1] at h; cases h
      | some a' =>
        rw [h1] at h
        cases h2 : f b with
        | none => rw [h2] at h; cases h
        | some b' =>
          rw [h2] at h; cases h
          obtain ⟨k1, k2, _⟩ := ih a a' h1
          obtain ⟨j1, j2, _⟩ := ih b b' h2
          exact ⟨snd_Irange2 r1 r2 (snd_consA k1.pa (snd_consA j1.pa snd_nilA (j2 [])) (k2 [b])) (by rw [k2 [b], j2 []]; rfl) (j2 []), fun _ => rfl⟩
    · split at h
      · rename_i hx
        obtain ⟨hx, rfl, ht⟩ := hx
        obtain ⟨r1, r2⟩ := c.blt hx
        cases h1 : f a with
        | none => rw [h1] at h; cases h
        | some a' =>
          rw [h1] at h
          cases h2 : f b with
          | none => rw [h2] at h; cases h
          | some b' =>
            rw [h2] at h; cases h
            obtain ⟨k1, k2, _⟩ := ih a a' h1
            obtain ⟨j1, j2, _⟩ := ih b b' h2
            cases tg <;> first | (simp [isTup] at ht; done) | skip
            exact ⟨snd_Izip c.K r1 r2 (snd_consA k1.pa (snd_consA j1.pa snd_nilA (j2 [])) (k2 [b])) (k2 [b]) (by rw [j2 []]; rfl), fun _ => rfl⟩
      · exact compSeq_ok c ih h
  · exact compSeq_ok c ih h
theorem compO_ok (ih : Fok X B L f) {o : Option Expr} {e' : E} (h : compO f o = some e') : PO X o (rdO B L e') := by
  cases o with
  | none => simp only [compO] at h; cases h; exact snd_nopart
  | some e =>
    simp only [compO] at h
    cases h1 : f e with
    | none => rw [h1] at h; cases h
    | some a =>
      rw [h1] at h
      simp only [Option.bind_some] at h
      split at h
      · cases h
      · rename_i hn
        cases h
        exact snd_part hn (ih e e' h1).1.pe
theorem compRng_ok (c : Cn G sc X B L n) (ih : Fok X B L f) {x : Str} {p : Pos} {es : List Expr} {kws : List Keyword} {e' : E} (h : compRng f G.T sc x es kws = some e') : PE X (.Call (.Name x p) es kws pos) (rdE B L e') ∧ ∀ i, e' ≠ .var i := by
  have hr : ∀ {as}, rngOf G.T sc es = some as → ∃ rp pp, es = [.Call (.Name "range" rp) as [] pp] ∧ Gl X "range" ∧ X.mg "range" = none := fun {as} h => by
    unfold rngOf at h
    split at h
    · split at h
      · rename_i hb
        cases h
        obtain ⟨h1, rfl⟩ := hb
        exact ⟨_, _, rfl, c.blt h1⟩
      · cases h
    · cases h
  have hl : ∀ {t}, listy x = some t → x = if t then ("tuple" : Str) else ("list" : Str) := fun {t} h => by
    unfold listy at h
    split at h
    · cases h; assumption
    · split at h
      · cases h; assumption
      · cases h
  unfold compRng at h
  split at h
  · rename_i t a e1 e2
    obtain ⟨rp, pp, rfl, g1, g2⟩ := hr e2
    split at h
    · rename_i hb
      obtain ⟨b1, b2⟩ := c.blt hb
      cases h1 : f a with
      | none => rw [h1] at h; cases h
      | some a' =>
        rw [h1] at h; cases h
        obtain ⟨k1, k2, _⟩ := ih a a' h1
        exact ⟨(snd_rngT x (hl e1) c.calm b1 b2 (prg_1 g1 g2 k1.pe (k2 [])) rfl).imp fun σ H Q h => rd_rng1 h, fun i => by simp⟩
    · cases h
  · rename_i t a b e1 e2
    obtain ⟨rp, pp, rfl, g1, g2⟩ := hr e2
    split at h
    · rename_i hb
      obtain ⟨b1, b2⟩ := c.blt hb
      cases h1 : f a with
      | none => rw [h1] at h; cases h
      | some a' =>
        rw [h1] at h
        cases h2 : f b with
        | none => rw [h2] at h; cases h
        | some b' =>
          rw [h2] at h; cases h
          obtain ⟨k1, k2, _⟩ := ih a a' h1
          obtain ⟨j1, j2, _⟩ := ih b b' h2
          exact ⟨(snd_rngT x (hl e1) c.calm b1 b2 (prg_2 g1 g2 k1.pe j1.pe (k2 [b]) (j2 []) (by rw [j2 []]; rfl)) rfl).imp fun σ H Q h => rd_rng2 h, fun i => by simp⟩
    · cases h
  · cases h
theorem compCall_ok (c : Cn G sc X B L n) (ih : Fok X B L f) {x : Str} {p : Pos} {es : List Expr} {kws : List Keyword} {e' : E} (h : compCall f G.T sc x es kws = some e') : PE X (.Call (.Name x p) es kws pos) (rdE B L e') ∧ ∀ i, e' ≠ .var i := by
  unfold compCall at h
  cases hrn : compRng f G.T sc x es kws with
  | some e => rw [hrn] at h; cases h; exact compRng_ok c ih hrn
  | none =>
  rw [hrn] at h
  simp only at h
  split at h
  · rename_i hx
    obtain ⟨hx, rfl⟩ := hx
    obtain ⟨r1, r2⟩ := c.blt hx
    split at h
    · rename_i a t tp
      split at h
      · rename_i ht
        obtain ⟨t1, t2⟩ := c.blt ht
        cases h1 : tyS t with
        | none => rw [h1] at h; cases h
        | some t' =>
          rw [h1] at h
          cases h2 : f a with
          | none => rw [h2] at h; cases h
          | some a' =>
            rw [h2] at h; cases h
            obtain ⟨q1, q2, q3⟩ := tyS_ok h1
            obtain ⟨k1, k2, _⟩ := ih a a' h2
            exact ⟨snd_isin1 c.K r1 r2 t1 t2 q1 q2 q3 k1.pa (k2 _), fun i => by simp⟩
      · cases h
    · rename_i a ts tk tp
      cases h1 : compTys G.T sc ts with
      | none => rw [h1] at h; cases h
      | some ts' =>
        rw [h1] at h
        simp only [Option.bind_some] at h
        split at h
        · rename_i hz
          cases h2 : f a with
          | none => rw [h2] at h; cases h
          | some a' =>
            rw [h2] at h; cases h
            obtain ⟨k1, k2, _⟩ := ih a a' h2
            exact ⟨snd_isinT c.K r1 r2 (compTys_ok c h1) hz k1.pa (k2 _), fun i => by simp⟩
        · cases h
    · cases h
  · split at h
    · rename_i b bt hb
      split at h
      · rename_i hc
        obtain ⟨hx, hk, he⟩ := hc
        obtain ⟨r1, r2⟩ := c.blt hx
        cases kws with
        | cons k ks => simp at hk
        | nil =>
        cases es with
        | nil => simp at he
        | cons e es =>
          cases h1 : compL f (e :: es) with
          | none => rw [h1] at h; cases h
          | some es' =>
            rw [h1] at h; cases h
            obtain ⟨q1, q2, q3, q4, q5⟩ := biS_ok hb
            obtain ⟨k1, _, _, k4, k5⟩ := compL_ok ih h1
            have s1 := k5 e es rfl
            have pl : (backTo pos (starEach es X.env)).any (·.1) = false := by
              have := k4 pos
              rw [s1] at this
              simpa [backTo] using this
            refine ⟨?_, fun i => by simp⟩
            have sb := sound_bi (X := X) (B := B) b c.calm c.K
            cases bt with
            | true =>
              obtain ⟨T, hT⟩ := q4 rfl
              rw [hT] at sb q1
              exact (pe_callTy sb r1 r2 q1 k1 q2 q3 s1 pl).imp fun σ H Q h => rd_bi h
            | false =>
              obtain ⟨T, hT⟩ := q5 rfl
              rw [hT] at sb q1
              exact (pe_callB sb r1 r2 q1 k1 q2 q3 s1 pl).imp fun σ H Q h => rd_bi h
      · cases h
    · split at h
      · rename_i hg
        obtain ⟨hT, hx, rfl, hk, he⟩ := hg
        cases kws with
        | cons k ks => simp at hk
        | nil =>
        cases es with
        | nil => simp at he
        | cons e es =>
          cases h1 : compL f (e :: es) with
          | none => rw [h1] at h; cases h
          | some es' =>
            rw [h1] at h; cases h
            obtain ⟨k1, _, _, k4, k5⟩ := compL_ok ih h1
            have s1 := k5 e es rfl
            have pl : (backTo pos (starEach es X.env)).any (·.1) = false := by
              have := k4 pos
              rw [s1] at this
              simpa [backTo] using this
            refine ⟨?_, fun i => by simp⟩
            have sb := sound_bi (X := X) (B := B) .gcd c.calm c.K
            exact (pe_callBfun sb (c.gl hx) (c.T.gcd hT) k1 (by decide) s1 pl).imp fun σ H Q h => rd_bi h
      · split at h
        · rename_i hg
          obtain ⟨hT, hx, rfl, hk, he⟩ := hg
          cases kws with
          | cons k ks => simp at hk
          | nil =>
          cases es with
          | nil => simp at he
          | cons e es =>
            cases h1 : compL f (e :: es) with
            | none => rw [h1] at h; cases h
            | some es' =>
              rw [h1] at h; cases h
              obtain ⟨k1, _, _, k4, k5⟩ := compL_ok ih h1
              have s1 := k5 e es rfl
              have pl : (backTo pos (starEach es X.env)).any (·.1) = false := by
                have := k4 pos
                rw [s1] at this
                simpa [backTo] using this
              refine ⟨?_, fun i => by simp⟩
              have sb := sound_bi (X := X) (B := B) .lcm c.calm c.K
              exact (pe_callBfun sb (c.gl hx) (c.T.lcm hT) k1 (by decide) s1 pl).imp fun σ H Q h => rd_bi h
        split at h
        · rename_i hg
          obtain ⟨hx, hn⟩ := hg
          cases hl : G.T.fns.lookup x with
          | none => rw [hl] at h; cases h
          | some fp =>
            obtain ⟨fi, pats⟩ := fp
            rw [hl] at h
            simp only at h
            cases h1 : compL f es with
            | none => rw [h1] at h; cases h
            | some es1 =>
              rw [h1] at h
              cases h2 : compKw f kws with
              | none => rw [h2] at h; cases h
              | some p2 =>
                rw [h2] at h
                simp only [Option.bind_some] at h
                cases h3 : pats.find? (fun q => decide (q.1 = es1.length ∧ q.2.1 = p2.1)) with
                | none => rw [h3] at h; cases h
                | some q =>
                  rw [h3] at h; cases h
                  obtain ⟨m, ks, pm⟩ := q
                  have hm := List.mem_of_find?_eq_some h3
                  have hp := of_decide_eq_true (List.find?_some (p := fun q : Nat × List Str × List Nat => decide (q.1 = es1.length ∧ q.2.1 = p2.1)) h3)
                  simp only at hp
                  obtain ⟨rfl, rfl⟩ := hp
                  obtain ⟨fa, fd, ps, F, g1, g2, g3, g4⟩ := c.T.fn x fi pats hl
                  obtain ⟨b1, b2, b3⟩ := g4 _ _ _ hm
                  obtain ⟨k1, _, k3, k4, k5⟩ := compL_ok ih h1
                  obtain ⟨j1, j2, j3⟩ := compKw_ok ih h2
                  obtain ⟨w1, w2, w3⟩ := j3 pos
                  refine ⟨snd_call c.K F c.room c.tk (c.gl hx) g1 g2 (okN_ok hn).1 b1 b2 g3 (fun k hk => ?_) k1 j1 k3 j2 w1 w2 ?_ k5, fun i => by simp⟩
                  · have := b3 k hk
                    rw [List.length_append, j2]; exact this
                  · rw [k4 pos, w3]; rfl
        · cases h
theorem compSp_ok (c : Cn G sc X B L n) (ih : Fok X B L f) (hfold : ∀ e e', f e = some e' → ∀ x, foldedSetIterable e X.env x = pure x) {x : Str} {p : Pos} {es : List Expr} {kws : List Keyword} {e' : E} (h : compSp f G sc x es kws = some e') : PE X (.Call (.Name x p) es kws pos) (rdE B L e') ∧ ∀ i, e' ≠ .var i := by
  unfold compSp at h
  split at h
  · rename_i y yp kd cp y2 y2p it scope q
    split at h
    · rename_i hh
      obtain ⟨rfl, hb, rfl, hsc, hn⟩ := hh
      obtain ⟨r1, r2⟩ := c.blt hb
      cases h1 : f it with
      | none => rw [h1] at h; cases h
      | some a' =>
        rw [h1] at h; cases h
        obtain ⟨k1, _, k3⟩ := ih it a' h1
        exact ⟨snd_uniq c.K c.calm (by have := c.units; omega) r1 r2 k1.pa hsc (okN_ok hn).1 k3, fun i => by simp⟩
    · cases h
  · rename_i a key y ap y1 p1 k0 p2 p3 m p4 y2 p5 k1 p6 p7 p8 p9 ls lp kp
    split at h
    · rename_i hh
      obtain ⟨hl, rfl, hb, rfl, rfl, rfl, rfl, hsc⟩ := hh
      obtain ⟨r1, r2⟩ := c.blt hb
      obtain ⟨cc, P, e1, e2, e3⟩ := c.lam hl
      cases h1 : f a with
      | none => rw [h1] at h; cases h
      | some a' =>
        cases h2 : idxN G.N m with
        | none => rw [h1, h2] at h; cases h
        | some mi =>
          rw [h1, h2] at h; cases h
          obtain ⟨k1, k2, k3⟩ := ih a a' h1
          refine ⟨snd_sortk (kd := 0) (c := cc) (P := P) c.K (by have := c.room.un; omega) c.room.depth r1 r2 k1.pa (k2 []) (by rw [c.N]; exact idxN_ok h2) (by rw [c.scp]; exact lamSc_ok hsc) (fun _ _ _ _ _ _ => rfl) rfl e2 e1 e3, fun i => by simp⟩
    · cases h
  · cases h
theorem Cn.blk {scope : Scope} (c : Cn G sc X B L n) (s : Shared) (H : Hp) (C : Addr) (cl : List (Str × Addr)) (fp : List Addr) : Cn G (relS scope sc) (X.blk s H scope (compEnvC scope cl C X.env) fp) B.quiet L n where
  N := c.N
  nd := c.nd
  scp := by rw [← c.scp]; rfl
  K := c.K
  calm := c.calm
  room := c.room
  tk := takes0
  T := c.T
  big := c.big
  lam := c.lam
theorem tg_blk {scope : Scope} (s : Shared) (H : Hp) (C : Addr) (cl : List (Str × Addr)) (fp : List Addr) : TgOk scope (X.blk s H scope (compEnvC scope cl C X.env) fp) := fun x h => by
  rcases h with h | h
  · have e : (relS scope X.env.scope).names.lookup x = some .local := lookup_relS_keep (by simp) h
    exact ⟨.inl e, .inr e⟩
  · have e : (relS scope X.env.scope).names.lookup x = some .cell := lookup_relS_keep (by simp) h
    refine ⟨.inr e, .inl ?_⟩
    show (scope.names.lookup x == some NameKind.cell) = true
    rw [h]; rfl
end
theorem compI_fold {G : CG} {m : Nat} {sc : Scope} {T : Tab} {sc2 : Scope} {tg it : Expr} {ki : ItK × List E} (h : compI (compE G m sc) T sc2 tg it = some ki) (env : PySem.Env) (x : Value) : foldedSetIterable it env x = pure x := by
  have seq : ∀ {it : Expr}, ((compE G m sc it).map fun a' => (ItK.seq, [a'])) = some ki → foldedSetIterable it env x = pure x := fun {it} h => by
    cases h1 : compE G m sc it with
    | none => rw [h1] at h; cases h
    | some a => exact compE_fold h1 env x
  unfold compI at h
  split at h
  · rfl
  · rfl
  · exact seq h
theorem compE_ok {G : CG} {L : Lib} {n : Nat} : ∀ (m : Nat) {sc : Scope} {e : Expr} {e' : E}, compE G m sc e = some e' → ∀ {X : Cx} {B : Sx}, Cn G sc X B L n → Snd X B L e e' := by
  intro m
  induction m with
  | zero => intro sc e e' h; simp [compE] at h
  | succ m ih =>
    intro sc e e' h X B c
    have fk : ∀ {sc : Scope} {X : Cx} {B : Sx}, Cn G sc X B L n → Fok X B L (compE G m sc) := fun {sc X B} c e e' h => ⟨ih h c, fun r => compE_star h r _, fun x => compE_fold h _ x⟩
    change stepE G (compE G m) sc e = some e' at h
    unfold stepE at h
    split at h
    · -- names
      rename_i x p
      split at h
      · rename_i hn
        split at h
        · rename_i hv
          cases h1 : idxN G.N x with
          | none => rw [h1] at h; cases h
          | some i =>
            rw [h1] at h; cases h
            obtain ⟨d1, d2⟩ := okN_ok hn
            have hN : X.N[i]? = some x := by rw [c.N]; exact idxN_ok h1
            have hV : Vis X.env.scope x := by rw [c.scp]; exact visB_ok hv
            exact ⟨snd_var hN hV d1 d2, snd_varA hN hV d1 d2, snd_T c.K (snd_varA hN hV d1 d2) fun _ => rfl⟩
        · split at h
          · rename_i hg
            cases h1 : G.T.con.lookup x with
            | none => rw [h1] at h; cases h
            | some k =>
              rw [h1] at h; cases h
              obtain ⟨u, v, d, q1, q2, q3, q4⟩ := c.T.con x k h1
              exact .of c.K (by simp) (snd_glo (c.gl hg) q1 q2 (okN_ok hn).1 q3 fun U H => c.K ▸ q4 U H) fun _ => rfl
          · cases h
      · cases h
    · -- constants
      rename_i k j p
      cases k with
      | none => cases h; exact .of c.K (by simp) (snd_con pe_non fun U H => .non) fun _ => rfl
      | bool b => cases h; exact .of c.K (by simp) (snd_con pe_bl fun U H => .bl b) fun _ => rfl
      | int i => cases h; exact .of c.K (by simp) (snd_con pe_int fun U H => .int i) fun _ => rfl
      | str x =>
        simp only [conD] at h
        split at h
        · rename_i hx
          cases h
          exact .of c.K (by simp) (snd_con pe_str fun U H => .str x hx) fun _ => rfl
        · cases h
      | _ => simp [conD] at h
    · rename_i a op b p
      cases h1 : bopOf op with
      | none => rw [h1] at h; cases h
      | some o =>
        cases h2 : compE G m sc a with
        | none => rw [h1, h2] at h; cases h
        | some a' =>
          cases h3 : compE G m sc b with
          | none => rw [h1, h2, h3] at h; cases h
          | some b' =>
            rw [h1, h2, h3] at h; cases h
            exact .of c.K (by simp) (snd_bin h1 c.K (ih h2 c).pa (ih h3 c).pa) fun _ => rfl
    · rename_i a op b p
      split at h
      · cases h
      · rename_i hb
        cases h2 : compE G m sc a with
        | none => rw [h2] at h; cases h
        | some a' =>
          cases h3 : compE G m sc b with
          | none => rw [h2, h3] at h; cases h
          | some b' =>
            rw [h2, h3] at h; cases h
            have hb : behindInMarks op b = false := by simpa using hb
            have he := snd_cmp (pos := p) c.K c.units (ih h2 c).pa (ih h3 c).pa hb
            exact ⟨he, snd_arg (by simp) he, snd_Tcmp c.K c.units (ih h2 c).pa (ih h3 c).pa hb⟩
    · rename_i a op op' b z p
      split at h
      · cases h
      · rename_i hb
        cases h2 : compE G m sc a with
        | none => rw [h2] at h; cases h
        | some a' =>
          cases h3 : compE G m sc b with
          | none => rw [h2, h3] at h; cases h
          | some b' =>
            cases h4 : compE G m sc z with
            | none => rw [h2, h3, h4] at h; cases h
            | some z' =>
              rw [h2, h3, h4] at h; cases h
              have hb : lastMarks [op, op'] [b, z] = false := by simpa using hb
              have he := snd_chn (pos := p) c.K c.units (ih h2 c).pe (ih h3 c).pe (ih h4 c).pe hb
              exact ⟨he, snd_arg (by simp) he, snd_Tchn c.K c.units (ih h2 c).pe (ih h3 c).pe (ih h4 c).pe hb⟩
    · rename_i a p
      cases h2 : compE G m sc a with
      | none => rw [h2] at h; cases h
      | some a' => rw [h2] at h; cases h; exact .of c.K (by simp) (snd_neg (ih h2 c).pa) fun _ => rfl
    · rename_i a p
      cases h2 : compE G m sc a with
      | none => rw [h2] at h; cases h
      | some a' =>
        rw [h2] at h; cases h
        have he := snd_not (pos := p) c.K (ih h2 c).pa
        exact ⟨he, snd_arg (by simp) he, snd_Tnot (ih h2 c).pt⟩
    · rename_i op a b r p
      obtain ⟨q1, q2, q3⟩ := compBo_ok (pos := p) c.K (fk c) h
      exact ⟨q1, snd_arg (q3 a b r rfl) q1, q2.pt⟩
    · rename_i z a b p
      cases h1 : compE G m sc z with
      | none => rw [h1] at h; cases h
      | some z' =>
        cases h2 : compE G m sc a with
        | none => rw [h1, h2] at h; cases h
        | some a' =>
          cases h3 : compE G m sc b with
          | none => rw [h1, h2, h3] at h; cases h
          | some b' =>
            rw [h1, h2, h3] at h; cases h
            have he := snd_ite (pos := p) (ih h1 c).pt (ih h2 c).pe (ih h3 c).pe
            exact ⟨he, snd_arg (by simp) he, snd_PTite (ih h1 c).pt (ih h2 c).pt (ih h3 c).pt⟩
    · rename_i es k p
      cases h1 : compL (compE G m sc) es with
      | none => rw [h1] at h; cases h
      | some xs =>
        rw [h1] at h
        simp only [Option.bind_some] at h
        split at h
        · rename_i hz
          cases h
          exact .of c.K (by simp) (snd_tup (compL_ok (fk c) h1).2.1 hz) fun _ => rfl
        · cases h
    · rename_i es p
      cases h1 : compL (compE G m sc) es with
      | none => rw [h1] at h; cases h
      | some xs =>
        rw [h1] at h
        simp only [Option.bind_some] at h
        split at h
        · rename_i hz
          cases h
          exact .of c.K (by simp) (snd_lst (compL_ok (fk c) h1).2.1 hz) fun _ => rfl
        · cases h
    · rename_i a k p1 p2 p3 p
      cases h1 : compE G m sc a with
      | none => rw [h1] at h; cases h
      | some a' => rw [h1] at h; cases h; exact .of c.K (by simp) (snd_rev c.K (ih h1 c).pa) fun _ => rfl
    · rename_i a lo hi p2 p
      cases h1 : compE G m sc a with
      | none => rw [h1] at h; cases h
      | some a' =>
        cases h2 : compO (compE G m sc) lo with
        | none => rw [h1, h2] at h; cases h
        | some l' =>
          cases h3 : compO (compE G m sc) hi with
          | none => rw [h1, h2, h3] at h; cases h
          | some h' =>
            rw [h1, h2, h3] at h; cases h
            exact .of c.K (by simp) (snd_cut c.K (ih h1 c).pa (compO_ok (fk c) h2) (compO_ok (fk c) h3)) fun _ => rfl
    · rename_i x p es k tp p2
      split at h
      · rename_i g hg
        split at hg
        · rename_i hgl
          cases h1 : compE G m sc (.Tuple es k tp) with
          | none => rw [h1] at h; cases h
          | some i' =>
            rw [h1] at h; cases h
            obtain ⟨u, kvs, q1, q2, q3⟩ := c.T.dic x g hg
            exact .of c.K (by simp) (snd_gdx c.K (by have := c.units; omega) (c.gl hgl.1) q1 (okN_ok hgl.2).1 q3 q2 (ih h1 c).pe (fun _ _ => rfl)) fun _ => rfl
        · cases hg
      · cases h1 : compE G m sc (.Name x p) with
        | none => rw [h1] at h; cases h
        | some a' =>
          cases h2 : compE G m sc (.Tuple es k tp) with
          | none => rw [h1, h2] at h; cases h
          | some i' =>
            rw [h1, h2] at h; cases h
            exact .of c.K (by simp) (snd_ix c.K (ih h1 c).pa (ih h2 c).pa (compE_ix h2)) fun _ => rfl
    · rename_i a i p _ _ _
      cases h1 : compE G m sc a with
      | none => rw [h1] at h; cases h
      | some a' =>
        cases h2 : compE G m sc i with
        | none => rw [h1, h2] at h; cases h
        | some i' =>
          rw [h1, h2] at h; cases h
          exact .of c.K (by simp) (snd_ix c.K (ih h1 c).pa (ih h2 c).pa (compE_ix h2)) fun _ => rfl
    · rename_i x p es kws pos
      split at h
      · rename_i e0 hsp
        cases h
        obtain ⟨q1, q2⟩ := compSp_ok (pos := pos) (p := p) c (fk c) (fun e e' h x => compE_fold h _ x) hsp
        exact .of c.K q2 q1 fun _ => rfl
      · obtain ⟨q1, q2⟩ := compCall_ok (pos := pos) (p := p) c (fk c) h
        exact .of c.K q2 q1 fun _ => rfl
    · rename_i x p nm ap e cp
      split at h
      · rename_i hc
        obtain ⟨rfl, hl⟩ := hc
        cases h1 : compE G m sc (.Name x p) with
        | none => rw [h1] at h; cases h
        | some a' =>
          cases h2 : compE G m sc e with
          | none => rw [h1, h2] at h; cases h
          | some e' =>
            rw [h1, h2] at h; cases h
            exact .of c.K (by simp) (snd_idx c.K c.units (ih h1 c).pe (ih h2 c).pe (compE_star h2 [] _) hl) fun _ => rfl
      · cases h
    · rename_i elt g scope p
      obtain ⟨tg, iter, ifs, ia⟩ := g
      simp only at h
      split at h
      · rename_i hh
        obtain ⟨rfl, hB, hlen⟩ := hh
        cases h1 : compTg G.N scope tg with
        | none => rw [h1] at h; cases h
        | some tgt =>
          rw [h1] at h
          simp only [Option.bind_some] at h
          split at h
          · rename_i hs
            cases h2 : compI (compE G m sc) G.T sc tg iter with
            | none => rw [h2] at h; cases h
            | some ki =>
              obtain ⟨k, es'⟩ := ki
              cases h3 : compL (compE G m (relS scope sc)) ifs with
              | none => rw [h2, h3] at h; cases h
              | some cs =>
                cases h4 : compE G m (relS scope sc) elt with
                | none => rw [h2, h3, h4] at h; cases h
                | some elt' =>
                  rw [h2, h3, h4] at h; cases h
                  obtain ⟨i1, i2⟩ := compI_ok c (fk c) h2
                  refine .of c.K (by simp) (snd_lc c.calm (c.N ▸ c.nd) i1 (by rw [c.N, c.scp]; exact blkOk_by hB) hs (fun s H C cl fp => compTg_ok (tg_blk s H C cl fp) (c.blk s H C cl fp) h1) (fun s H C cl fp => ?_) (fun s H C cl fp => (ih h4 (c.blk s H C cl fp)).pe) i2) fun _ => rfl
                  rcases ifs with _ | ⟨b, _ | ⟨b2, r⟩⟩
                  · simp only [compL] at h3; cases h3; exact snd_H0
                  · simp only [compL] at h3
                    cases h5 : compE G m (relS scope sc) b with
                    | none => rw [h5] at h3; cases h3
                    | some b' => rw [h5] at h3; cases h3; exact snd_H1 (ih h5 (c.blk s H C cl fp)).pt
                  · simp at hlen
          · cases h
      · cases h
    · rename_i elt g g1 scope p
      obtain ⟨tg, iter, ifs, ia⟩ := g
      obtain ⟨tg1, iter1, ifs1, ia1⟩ := g1
      simp only at h
      split at h
      · rename_i hh
        obtain ⟨rfl, rfl, hB, hlen, hlen1⟩ := hh
        cases h1 : compTg G.N scope tg with
        | none => rw [h1] at h; cases h
        | some tgt =>
          cases h1' : compTg G.N scope tg1 with
          | none => rw [h1, h1'] at h; cases h
          | some tgt1 =>
          rw [h1, h1'] at h
          simp only [Option.bind_some] at h
          split at h
          · rename_i hs
            cases h2 : compI (compE G m sc) G.T sc tg iter with
            | none => rw [h2] at h; cases h
            | some ki =>
              obtain ⟨k, es'⟩ := ki
              cases h3 : compL (compE G m (relS scope sc)) ifs with
              | none => rw [h2, h3] at h; cases h
              | some cs =>
                cases h2' : compI (compE G m (relS scope sc)) G.T (relS scope sc) tg1 iter1 with
                | none => rw [h2, h3, h2'] at h; cases h
                | some ki1 =>
                obtain ⟨k1, es1'⟩ := ki1
                cases h3' : compL (compE G m (relS scope sc)) ifs1 with
                | none => rw [h2, h3, h2', h3'] at h; cases h
                | some cs1 =>
                cases h4 : compE G m (relS scope sc) elt with
                | none => rw [h2, h3, h2', h3', h4] at h; cases h
                | some elt' =>
                  rw [h2, h3, h2', h3', h4] at h; cases h
                  obtain ⟨i1, i2⟩ := compI_ok c (fk c) h2
                  have tests : ∀ {ifs : List Expr} {cs : List E}, ifs.length ≤ 1 → compL (compE G m (relS scope sc)) ifs = some cs → ∀ (s : Shared) (H : Hp) (C : Addr) (cl : List (Str × Addr)) (fp : List Addr), PTs (X.blk s H scope (compEnvC scope cl C X.env) fp) ifs (rdH B.quiet L cs) := by
                    intro ifs cs hlen h3 s H C cl fp
                    rcases ifs with _ | ⟨b, _ | ⟨b2, r⟩⟩
                    · simp only [compL] at h3; cases h3; exact snd_H0
                    · simp only [compL] at h3
                      cases h5 : compE G m (relS scope sc) b with
                      | none => rw [h5] at h3; cases h3
                      | some b' => rw [h5] at h3; cases h3; exact snd_H1 (ih h5 (c.blk s H C cl fp)).pt
                    · simp at hlen
                  exact .of c.K (by simp) (snd_lc2 c.calm (c.N ▸ c.nd) i1 (by rw [c.N, c.scp]; exact blkOk_by hB) hs.1 hs.2 (fun s H C cl fp => compTg_ok (tg_blk s H C cl fp) (c.blk s H C cl fp) h1) (tests hlen h3) (fun s H C cl fp => (compI_ok (c.blk s H C cl fp) (fk (c.blk s H C cl fp)) h2').1)
                    (fun s H C cl fp => compTg_ok (tg_blk s H C cl fp) (c.blk s H C cl fp) h1') (tests hlen1 h3') (fun s H C cl fp => (ih h4 (c.blk s H C cl fp)).pe) i2 (fun env x => compI_fold h2' env x)) fun _ => rfl
          · cases h
      · cases h
    · cases h
end Pi

set_option Elab.async false
set_option linter.all false
set_option maxRecDepth 100000
set_option maxHeartbeats 4000000
/-! PiQ: from the text's trees to the interpreter's: statements. -/
namespace Pi
open PySem PySem.Spec PyProof.Rows L2
variable [HasT]

def isComp : Expr → Bool
  | .ListComp _ _ _ _ => true
  | .SetComp _ _ _ _ => true
  | .DictComp _ _ _ _ _ => true
  | _ => false
theorem sw_no {e : Expr} (h : isComp e = false) (t : Option Expr) (l : Nat) (env : PySem.Env) : swapsWith e t l env = pure false := by
  cases e <;> first | rfl | (simp [isComp] at h; done)
/-- whether the new list is at once the name's -/
def swB (sc : Scope) (x : Str) (p : Pos) : Expr → Bool
  | .ListComp _ _ s q => (sc.names.lookup x == some NameKind.local) && p.line == q.line && !(s.names.any fun (n, k) => n == x && (k == .local || k == .cell))
  | _ => false
theorem sw_lc {elt : Expr} {gs : List Comprehension} {s : Scope} {q : Pos} {x : Str} {p : Pos} {l : Nat} {env : PySem.Env} (hk : env.scope.kind = .function) :
    swapsWith (.ListComp elt gs s q) (some (.Name x p)) l env = pure (swB env.scope x p (.ListComp elt gs s q)) := by
  show (pure (env.blockKind == .function && env.kindOf x == some .local && p.line == q.line && !(s.names.any fun (n, k) => n == x && (k == .local || k == .cell))) : Sem Bool) = _
  have : env.blockKind = .function := by
    unfold Env.blockKind
    rw [hk]; rfl
  rw [this]
  rfl
theorem sw_tup {e : Expr} {ts : List Expr} {k : Nat} {tp : Pos} (l : Nat) (env : PySem.Env) : swapsWithSole [.Tuple ts k tp] e l env = pure false := by
  cases e <;> rfl
theorem sw_sub {e : Expr} {o i : Expr} {tp : Pos} (l : Nat) (env : PySem.Env) : swapsWithSole [.Subscript o i tp] e l env = pure false := by
  cases e <;> rfl
theorem ss_sub {e : Expr} {o i : Expr} {tp : Pos} (env : PySem.Env) : swappedStores [.Subscript o i tp] e env = pure none := by
  cases e <;> rfl
def isTupE : Expr → Bool
  | .Tuple _ _ _ => true
  | _ => false
theorem ss_nt {e : Expr} (h : isTupE e = false) {ts : List Expr} {k : Nat} {tp : Pos} (env : PySem.Env) : swappedStores [.Tuple ts k tp] e env = pure none := by
  cases e <;> first | rfl | (simp [isTupE] at h; done)
def swNames (sc : Scope) (ts : List Expr) : List Str := ts.filterMap fun
  | .Name id pos => if sc.names.lookup id == some .local && pos.line == ((ts.head?.map (·.pos.line)).getD 0) then some id else none
  | _ => none
def starAny (vs : List Expr) : Bool := vs.any fun | .Starred .. => true | _ => false
/-- how several names take several values: none: not known -/
def swS (sc : Scope) (ts vs : List Expr) : Option (Option (List Str)) :=
  if (!(ts.length == 2 || ts.length == 3) || vs.length != ts.length) = true then some none
  else if starAny vs = true then some none
  else if ((swNames sc ts).length != ts.length || (swNames sc ts).eraseDups.length != (swNames sc ts).length) = true then some none
  else if vs.all (foldedForSure 8) = true then some none
  else if vs.all (constantsAlone 8) = true then none
  else some (some (swNames sc ts))
theorem ss_t {ts vs : List Expr} {k k2 : Nat} {tp vp : Pos} {env : PySem.Env} (hk : env.scope.kind = .function) {r : Option (List Str)} (h : swS env.scope ts vs = some r) : swappedStores [.Tuple ts k tp] (.Tuple vs k2 vp) env = pure r := by
  have hb : (env.blockKind != .function) = false := by
    have : env.blockKind = .function := by
      unfold Env.blockKind
      rw [hk]; rfl
    rw [this]; rfl
  show (if (!(ts.length == 2 || ts.length == 3) || vs.length != ts.length || env.blockKind != .function) = true then (pure none : Sem (Option (List Str)))
    else if starAny vs = true then pure none
    else if ((swNames env.scope ts).length != ts.length || (swNames env.scope ts).eraseDups.length != (swNames env.scope ts).length) = true then pure none
    else if vs.all (foldedForSure 8) = true then pure none
    else if vs.all (constantsAlone 8) = true then (unsupported "assign.tuple-of-constant-expressions:order-of-the-stores" >>= fun _ => pure (some (swNames env.scope ts)))
    else pure (some (swNames env.scope ts))) = pure r
  rw [hb, Bool.or_false]
  unfold swS at h
  repeat' split at h
  all_goals first | (cases h; done) | skip
  all_goals (cases h; simp only [*, if_true, if_false, Bool.false_eq_true])
end Pi

set_option Elab.async false
set_option linter.all false
set_option maxRecDepth 100000
set_option maxHeartbeats 4000000
/-! PiR: the statements' trees keep to the interpreter's. -/
namespace Pi
open PySem PySem.Spec PyProof.Rows L2
variable [HasT]

def compX0 (G : CG) (sc : Scope) (en : Option Str) (e : Expr) : Option XE := match e with
  | .Constant c _ _ => (conD c).map .con
  | .UnaryOp .USub (.Constant (.int i) _ _) _ => none
  | .Call (.Name b _) [.Name x _, .Name cn _] [] _ => if bltB G.T sc b = true ∧ b = ("isinstance" : Str) ∧ en = some x ∧ glB sc cn = true ∧ okN cn = true ∧ okN x = true ∧ visB sc x = true then (G.T.cls.lookup cn).map .isin else none
  | .Attribute (.Name x _) f _ => if en = some x ∧ okN x = true ∧ visB sc x = true then some (.fld f) else none
  | _ => none
def compXl (G : CG) (sc : Scope) (en : Option Str) : List Expr → Option (List XE)
  | [] => some []
  | e :: es => (compX0 G sc en e).bind fun x => (compXl G sc en es).map (x :: ·)
def compX (G : CG) (sc : Scope) (en : Option Str) (e : Expr) : Option XE := match e with
  | .Tuple es _ _ => (compXl G sc en es).bind fun xs => if xs.length ≤ 1000 then some (.tup xs) else none
  | e => compX0 G sc en e
/-- a suite of one store -/
def compXS (G : CG) (sc : Scope) (en : Option Str) (ss : List Stmt) : Option (List XS) := match ss with
  | [.Assign [.Name y _] e _] => if locB sc y = true ∧ isComp e = false then (idxN G.N y).bind fun j => if j ∈ G.Z then (compX G sc en e).map fun x => [.asg j x] else none else none
  | _ => none
def allLoc (sc : Scope) (ns : List Str) : Bool := ns.all fun x => match sc.names.lookup x with | some .local => true | _ => false
def compH (G : CG) (sc : Scope) (h : ExceptHandler) : Option (Nat × Option Nat × List XS) := match h with
  | .ExceptHandler (some (.Name cn _)) none ss _ => if glB sc cn = true ∧ okN cn = true then (G.T.cls.lookup cn).bind fun c => (compXS G sc none ss).map fun x => (c, none, x) else none
  | .ExceptHandler (some (.Name cn _)) (some en) ss _ => if glB sc cn = true ∧ okN cn = true ∧ allLoc sc [en] = true then (idxN G.N en).bind fun i => if i ∈ G.Z then (G.T.cls.lookup cn).bind fun c => (compXS G sc (some en) ss).map fun x => (c, some i, x) else none else none
  | _ => none
def compHs (G : CG) (sc : Scope) : List ExceptHandler → Option (List (Nat × Option Nat × List XS))
  | [] => some []
  | h :: hs => (compH G sc h).bind fun p => (compHs G sc hs).map fun r => p :: r
def compSL (f : Stmt → Option S) : List Stmt → Option (List S)
  | [] => some []
  | s :: ss => (f s).bind fun x => (compSL f ss).map (x :: ·)
def augB : Operator → Option Bop
  | .Add => some .add
  | .Sub => some .sub
  | _ => none
def stepS (G : CG) (cE : Expr → Option E) (cS : List Stmt → Option (List S)) (sc : Scope) (st : Stmt) : Option S := match st with
  | .Pass _ => some .pass
  | .Break _ => some .brk
  | .Continue _ => some .cnt
  | .Expr (.Call (.Attribute (.Name x _) attr ap) [e] [] cp) _ =>
    if visB sc x = true ∧ okN x = true ∧ (ap.endLine == cp.line) = true then
      if attr = ("append" : Str) then (idxN G.N x).bind fun i => (cE e).map fun y => .app i y
      else if attr = ("extend" : Str) then (idxN G.N x).bind fun i => (cE e).map fun y => .ext i y
      else none
    else none
  | .Expr e _ => if isComp e = true then none else (cE e).map .expr
  | .Return none _ => some .retN
  | .Return (some (.Name x _)) _ => if visB sc x = true ∧ okN x = true then (idxN G.N x).map fun i => .ret (.var i) else none
  | .Return (some e) _ => (cE e).bind fun y => match y with
    | .var _ => none
    | _ => some (.ret y)
  | .Assign [.Name x p] e _ => if locB sc x = true then (idxN G.N x).bind fun i => if i ∈ G.Z then (cE e).map fun y => .asg (.name i) y else none else none
  | .Assign [.Tuple ts _ _] (.Tuple vs k vp) _ =>
    (compNs G.N sc ts).bind fun is => if ∀ i ∈ is, i ∈ G.Z then
      match swS sc ts vs with
      | none => none
      | some none => (compL cE vs).bind fun ys => if ys.length ≤ 1000 then some (.par is ys) else none
      | some (some ns) => if is.Nodup ∧ allLoc sc ns = true then match ts, vs, is with
        | [.Name x _, .Name y _], [a, b], [i, j] => if ns = [x, y] then (cE a).bind fun a' => (cE b).map fun b' => .par [i, j] [a', b'] else none
        | [.Name x _, .Name y _, .Name z _], [a, b, c], [i, j, l] => if ns = [x, y, z] then (cE a).bind fun a' => (cE b).bind fun b' => (cE c).map fun c' => .par [i, j, l] [a', b', c'] else none
        | _, _, _ => none else none
    else none
  | .Assign [.Tuple ts _ _] e _ => (compNs G.N sc ts).bind fun is => if ∀ i ∈ is, i ∈ G.Z then (cE e).map fun y => .asg (.tup is) y else none
  | .Assign [.Subscript (.Name x _) i _] e _ => if visB sc x = true ∧ okN x = true then (idxN G.N x).bind fun j => (cE i).bind fun i' => (cE e).map fun y => .set j i' y else none
  | .AugAssign (.Name x _) op e _ => if locB sc x = true then (augB op).bind fun o => (idxN G.N x).bind fun i => if i ∈ G.Z then (cE e).map fun y => .aug i o y else none else none
  | .If c p q _ => (cE c).bind fun c' => (cS p).bind fun p' => (cS q).map fun q' => .ite c' p' q'
  | .While c b [] _ => (cE c).bind fun c' => (cS b).map fun b' => .whl c' b'
  | .For tg it b [] _ => (compTg G.N sc tg).bind fun tgt => if ∀ i ∈ tgt.slots, i ∈ G.Z then (compI cE G.T sc tg it).bind fun ki => (cS b).map fun b' => .fo tgt ki.1 ki.2 b' else none
  | .Raise (some (.Call (.Name x _) [.Constant (.str _) _ _] [] _)) none _ => if glB sc x = true ∧ okN x = true ∧ G.T.fld.lookup x = none then (G.T.cls.lookup x).map .raise else none
  | .Raise (some (.Call (.Name x _) [e] [] _)) none _ => if glB sc x = true ∧ okN x = true then (G.T.fld.lookup x).bind fun p => (cE e).map fun y => .raisE p.1 p.2 y else none
  | .Try b (h :: hs) [] [] _ => (compHs G sc (h :: hs)).bind fun r => (cS b).map fun b' => .tr b' r
  | _ => none
def compS (G : CG) (sc : Scope) : Nat → Stmt → Option S
  | 0 => fun _ => none
  | m + 1 => stepS G (compE G (m + 1) sc) (compSL (compS G sc m)) sc
def compSs (G : CG) (sc : Scope) (m : Nat) (ss : List Stmt) : Option (List S) := compSL (compS G sc m) ss

structure CnS (G : CG) (sc : Scope) (X : Cx) (B : Sx) (L : Lib) (n : Nat) : Prop extends Cn G sc X B L n where
  kind : sc.kind = .function
  tg : TgOk sc X
  own : PassesOwn (model X.prog X.w) X.A X.env X.xe
  stk : X.stack = X.env :: X.outer
  frm : X.env.frame = some X.env.locals
section
variable {X : Cx} {B : Sx} {L : Lib} {G : CG} {sc : Scope} {n : Nat} {pos : Pos}
theorem CnS.try (c : CnS G sc X B L n) {W : WX} {pn : List (Addr × Obj)} {xe : Value → Shared → Prop} (tk : Takes (X.tr pn xe) W) (po : PassesOwn (model X.prog X.w) X.A X.env xe) : CnS G sc (X.tr pn xe) (B.with W) L n where
  N := c.N
  nd := c.nd
  scp := c.scp
  K := c.K
  calm := c.calm
  room := c.room
  tk := tk
  T := c.T
  big := c.big
  lam := c.lam
  kind := c.kind
  tg := c.tg
  own := po
  stk := c.stk
  frm := c.frm
theorem Cn.cls (c : Cn G sc X B L n) {x : Str} {k : Nat} (h : G.T.cls.lookup x = some k) : ∃ Ca, ClsOk X.K X.mg B.XR L x k Ca := let ⟨Ca, h, _⟩ := c.T.cls x k h; ⟨Ca, h⟩
theorem compX0_ok (c : CnS G sc X B L n) {en : Option Str} {i : Option Nat} (hen : ∀ x, en = some x → ∃ j, i = some j ∧ X.N[j]? = some x) {e : Expr} {e' : XE} (h2 : compX0 G sc en e = some e')
    (a : Addr) (oe : Obj) (cls : Value) (d : Option Addr) (pn : List (Addr × Obj)) (hz : Zc cls d oe) (hf : ∃ vs, oe.data = .fields vs) (x : Exc) (hx : ∃ U H, B.XR x cls d U H) :
    PE (X.suite a ((a, oe) :: pn)) e (rdX B L x i a d e') ∧ ∀ r env, starEach (e :: r) env = (false, PySem.eval e env) :: starEach r env := by
  unfold compX0 at h2
  split at h2
  · rename_i k j p
    refine ⟨?_, fun _ _ => rfl⟩
    cases k with
    | none => cases h2; exact snd_xcon pe_non fun U H => .non
    | bool b => cases h2; exact snd_xcon pe_bl fun U H => .bl b
    | int i => cases h2; exact snd_xcon pe_int fun U H => .int i
    | str x =>
      simp only [conD] at h2
      split at h2
      · rename_i hx
        cases h2
        exact snd_xcon pe_str fun U H => .str x hx
      · cases h2
    | _ => simp [conD] at h2
  · cases h2
  · rename_i b bp xn xp cn cp p
    split at h2
    · rename_i hh
      obtain ⟨h3, rfl, rfl, h4, h5, h6, h7⟩ := hh
      obtain ⟨r1, r2⟩ := c.toCn.blt h3
      cases h8 : G.T.cls.lookup cn with
      | none => rw [h8] at h2; cases h2
      | some k =>
        rw [h8] at h2; cases h2
        obtain ⟨Ca, O⟩ := c.cls h8
        obtain ⟨j0, rfl, hj0⟩ := hen xn rfl
        obtain ⟨U, H, hx⟩ := hx
        refine ⟨?_, fun _ _ => rfl⟩
        cases hfl : x.fld with
        | some q =>
          refine ⟨fun pins s σ H Q I ⟨_, _, _, _, _, _, e, _⟩ => ?_⟩
          simp [evalX, hfl] at e
        | none =>
          obtain ⟨rfl, DD, rfl, E1, E2⟩ := O.isi x cls d U H hx hfl
          exact snd_xis hfl rfl hj0 (by rw [c.scp]; exact visB_ok h7) (okN_ok h6).1 (okN_ok h6).2 r1 r2 (c.gl h4) O.glob (okN_ok h5).1 E1 hz hf E2
    · cases h2
  · rename_i xn xp f p
    split at h2
    · rename_i hh
      obtain ⟨rfl, h6, h7⟩ := hh
      cases h2
      obtain ⟨j0, rfl, hj0⟩ := hen xn rfl
      obtain ⟨U, H, hx⟩ := hx
      obtain ⟨DD, rfl, hxf⟩ := c.T.xfc x cls d U H hx
      exact ⟨snd_xfld rfl hj0 (by rw [c.scp]; exact visB_ok h7) (okN_ok h6).1 (okN_ok h6).2 (fun d h => hxf f d h) hz hf rfl, fun _ _ => rfl⟩
    · cases h2
  · cases h2
theorem compXl_ok (c : CnS G sc X B L n) {en : Option Str} {i : Option Nat} (hen : ∀ x, en = some x → ∃ j, i = some j ∧ X.N[j]? = some x) (a : Addr) (oe : Obj) (cls : Value) (d : Option Addr) (pn : List (Addr × Obj)) (hz : Zc cls d oe) (hf : ∃ vs, oe.data = .fields vs) (x : Exc) (hx : ∃ U H, B.XR x cls d U H) :
    ∀ {es : List Expr} {es' : List XE}, compXl G sc en es = some es' → PA (X.suite a ((a, oe) :: pn)) es (rdXl B L x i a d es')
  | [], es', h => by simp only [compXl] at h; cases h; exact snd_xnil
  | e :: es, es', h => by
    simp only [compXl] at h
    cases h1 : compX0 G sc en e with
    | none => rw [h1] at h; cases h
    | some e' =>
      cases h2 : compXl G sc en es with
      | none => rw [h1, h2] at h; cases h
      | some r =>
        rw [h1, h2] at h; cases h
        obtain ⟨k1, k2⟩ := compX0_ok c hen h1 a oe cls d pn hz hf x hx
        exact snd_xcons k1 (compXl_ok c hen a oe cls d pn hz hf x hx h2) (k2 _ _)
theorem compXS_ok (c : CnS G sc X B L n) {en : Option Str} {ss : List Stmt} {h : List XS} {i : Option Nat} (hen : ∀ x, en = some x → ∃ j, i = some j ∧ X.N[j]? = some x) (hc : compXS G sc en ss = some h)
    (a : Addr) (oe : Obj) (cls : Value) (d : Option Addr) (pn : List (Addr × Obj)) (hz : Zc cls d oe) (hf : ∃ vs, oe.data = .fields vs) (x : Exc) (hx : ∃ U H, B.XR x cls d U H) :
    PSs (X.suite a ((a, oe) :: pn)) ss (rdXs B G.Z L x i a d h) ∧ ∃ b r, ss = b :: r := by
  unfold compXS at hc
  split at hc
  · rename_i y yp e pos
    split at hc
    · rename_i hl
      obtain ⟨hl, hcm⟩ := hl
      cases h1 : idxN G.N y with
      | none => rw [h1] at hc; cases hc
      | some j =>
        rw [h1] at hc
        simp only [Option.bind_some] at hc
        split at hc
        · rename_i hj
          cases h2 : compX G sc en e with
          | none => rw [h2] at hc; cases hc
          | some e' =>
            rw [h2] at hc; cases hc
            obtain ⟨t1, t2⟩ := c.tg y (locB_ok hl)
            refine ⟨snd_xasg (X := X.suite a ((a, oe) :: pn)) hj (c.N ▸ c.nd) (by rw [show (X.suite a ((a, oe) :: pn)).N = G.N from c.N]; exact idxN_ok h1) t1 t2 ?_ (sw_no hcm _ _ _), _, _, rfl⟩
            unfold compX at h2
            split at h2
            · rename_i es k p
              cases h3 : compXl G sc en es with
              | none => rw [h3] at h2; cases h2
              | some xs =>
                rw [h3] at h2
                simp only [Option.bind_some] at h2
                split at h2
                · rename_i hlen
                  cases h2
                  exact snd_xtup hlen (compXl_ok c hen a oe cls d pn hz hf x hx h3)
                · cases h2
            · exact (compX0_ok c hen h2 a oe cls d pn hz hf x hx).1
        · cases hc
    · cases hc
  · cases hc
theorem allLoc_ok {ns : List Str} (h : allLoc sc ns = true) {x : Str} (hx : x ∈ ns) : sc.names.lookup x = some .local := by
  have := List.all_eq_true.mp h x hx
  split at this
  · assumption
  · cases this
theorem compHs_ok (c : CnS G sc X B L n) : ∀ {hds : List ExceptHandler} {hs : List (Nat × Option Nat × List XS)}, compHs G sc hds = some hs → ∃ l, Hds X B G.Z L hds hs l
  | [], hs, h => by simp only [compHs] at h; cases h; exact ⟨_, .nil⟩
  | h0 :: hds, hs, h => by
    simp only [compHs] at h
    cases h1 : compH G sc h0 with
    | none => rw [h1] at h; cases h
    | some p =>
      cases h2 : compHs G sc hds with
      | none => rw [h1, h2] at h; cases h
      | some r =>
        rw [h1, h2] at h; cases h
        obtain ⟨l, t⟩ := compHs_ok c h2
        unfold compH at h1
        split at h1
        · rename_i cn np ss hp
          split at h1
          · rename_i hh
            cases h3 : G.T.cls.lookup cn with
            | none => rw [h3] at h1; cases h1
            | some k =>
              cases h4 : compXS G sc none ss with
              | none => rw [h3, h4] at h1; cases h1
              | some x =>
                rw [h3, h4] at h1; cases h1
                obtain ⟨Ca, O⟩ := c.cls h3
                cases ss with
                | nil => simp [compXS] at h4
                | cons b0 suite =>
                  exact ⟨_, .cons (c := .ref Ca) ⟨c.gl hh.1, (okN_ok hh.2).1, .inl O.glob⟩ O.hd (fun a oe cls d pn hz hf x hx => (compXS_ok c (en := none) (i := none) (fun x h => by cases h) h4 a oe cls d pn hz hf x hx).1) t⟩
          · cases h1
        · rename_i cn np en ss hp
          split at h1
          · rename_i hh
            obtain ⟨g1, g2, g3⟩ := hh
            cases h5 : idxN G.N en with
            | none => rw [h5] at h1; cases h1
            | some i =>
              rw [h5] at h1
              simp only [Option.bind_some] at h1
              split at h1
              · rename_i hz
                cases h3 : G.T.cls.lookup cn with
                | none => rw [h3] at h1; cases h1
                | some k =>
                  cases h4 : compXS G sc (some en) ss with
                  | none => rw [h3, h4] at h1; cases h1
                  | some x =>
                    rw [h3, h4] at h1; cases h1
                    obtain ⟨Ca, O⟩ := c.cls h3
                    have hi : X.N[i]? = some en := by rw [c.N]; exact idxN_ok h5
                    cases ss with
                    | nil => simp [compXS] at h4
                    | cons b0 suite =>
                      exact ⟨_, .named (c := .ref Ca) ⟨c.gl g1, (okN_ok g2).1, .inl O.glob⟩ hz hi (by show X.env.scope.names.lookup en = _; rw [c.scp]; exact allLoc_ok g3 (by simp)) O.hd
                        (fun a oe cls d pn hz hf x hx => (compXS_ok c (en := some en) (i := some i) (fun y hy => by cases hy; exact ⟨i, rfl, hi⟩) h4 a oe cls d pn hz hf x hx).1) t⟩
              · cases h1
          · cases h1
        · cases h1
theorem compSL_ok {f : Stmt → Option S} (ih : ∀ s s', f s = some s' → PS X s (rdS B G.Z L s')) : ∀ {ss : List Stmt} {ss' : List S}, compSL f ss = some ss' → PSs X ss (rdSs B G.Z L ss')
  | [], ss', h => by simp only [compSL] at h; cases h; exact snd_nilS
  | s :: ss, ss', h => by
    simp only [compSL] at h
    cases h1 : f s with
    | none => rw [h1] at h; cases h
    | some x =>
      cases h2 : compSL f ss with
      | none => rw [h1, h2] at h; cases h
      | some r =>
        rw [h1, h2] at h; cases h
        exact snd_consS (ih s x h1) (compSL_ok ih h2)
end
theorem pns2 {X : Cx} {x y : Str} {px py : Pos} {i j : Nat} (h : PNs X [.Name x px, .Name y py] [i, j]) : X.N[i]? = some x ∧ X.N[j]? = some y := by
  cases h with | cons a _ _ t => cases t with | cons b _ _ _ => exact ⟨a, b⟩
theorem pns3 {X : Cx} {x y z : Str} {px py pz : Pos} {i j l : Nat} (h : PNs X [.Name x px, .Name y py, .Name z pz] [i, j, l]) : X.N[i]? = some x ∧ X.N[j]? = some y ∧ X.N[l]? = some z := by
  cases h with | cons a _ _ t => cases t with | cons b _ _ t => cases t with | cons c _ _ _ => exact ⟨a, b, c⟩
theorem lc_set {X : Cx} {B : Sx} {L : Lib} {G : CG} {sc : Scope} {n m : Nat} {e : Expr} {e' : E} {x : Str} {p pos : Pos} {i : Nat} (c : CnS G sc X B L n) (hi : X.N[i]? = some x) (hz : i ∈ G.Z) (h : compE G m sc e = some e') (hs : swB sc x p e = true) :
    PS X (.Assign [.Name x p] e pos) (rdS B G.Z L (.asg (.name i) e')) := by
  cases m with
  | zero => simp [compE] at h
  | succ m =>
    have hs0 := hs
    cases e <;> first | (simp [swB] at hs; done) | skip
    rename_i elt gs scope q
    change stepE G (compE G m) sc _ = some e' at h
    unfold stepE at h
    split at h
    all_goals first | (rename_i hh; cases hh; done) | skip
    · rename_i elt2 g scope2 q2 hh
      cases hh
      obtain ⟨tg, iter, ifs, ia⟩ := g
      simp only at h
      split at h
      · rename_i hh
        obtain ⟨rfl, hB, hlen⟩ := hh
        have fk : ∀ {sc : Scope} {X : Cx} {B : Sx}, Cn G sc X B L n → Fok X B L (compE G m sc) := fun {sc X B} c e e' h => ⟨compE_ok m h c, fun r => compE_star h r _, fun x => compE_fold h _ x⟩
        cases h1 : compTg G.N scope tg with
        | none => rw [h1] at h; cases h
        | some tgt =>
          rw [h1] at h
          simp only [Option.bind_some] at h
          split at h
          · rename_i hsub
            cases h2 : compI (compE G m sc) G.T sc tg iter with
            | none => rw [h2] at h; cases h
            | some ki =>
              obtain ⟨k, es'⟩ := ki
              cases h3 : compL (compE G m (relS scope sc)) ifs with
              | none => rw [h2, h3] at h; cases h
              | some cs =>
                cases h4 : compE G m (relS scope sc) elt with
                | none => rw [h2, h3, h4] at h; cases h
                | some elt' =>
                  rw [h2, h3, h4] at h; cases h
                  obtain ⟨i1, i2⟩ := compI_ok c.toCn (fk c.toCn) h2
                  have hx : X.env.scope.names.lookup x = some .local := by
                    rw [c.scp]
                    simp only [swB, Bool.and_eq_true, beq_iff_eq] at hs
                    exact hs.1.1
                  refine (ps_setLc (tt := rdH B.quiet L cs) (te := rdE B.quiet L elt') (g := rdG B.quiet tgt) c.calm (c.N ▸ c.nd) hi hx (by rw [sw_lc (by rw [c.scp]; exact c.kind), c.scp, hs0]) i1 (by rw [c.N, c.scp]; exact blkOk_by hB)
                    (fun s H C cl fp => compTg_ok (tg_blk s H C cl fp) (c.toCn.blk s H C cl fp) h1) (fun s H C cl fp => ?_) (fun s H C cl fp => (compE_ok m h4 (c.toCn.blk s H C cl fp)).pe) i2).imp fun D σ H h => ?_
                  · rcases ifs with _ | ⟨b, _ | ⟨b2, r⟩⟩
                    · simp only [compL] at h3; cases h3; exact snd_H0
                    · simp only [compL] at h3
                      cases h5 : compE G m (relS scope sc) b with
                      | none => rw [h5] at h3; cases h3
                      | some b' => rw [h5] at h3; cases h3; exact snd_H1 (compE_ok m h5 (c.toCn.blk s H C cl fp)).pt
                    · simp at hlen
                  · exact rd_lc hsub (rd_set hz h)
          · cases h
      · cases h
    · rename_i elt2 g g1 scope2 q2 hh
      cases hh
      obtain ⟨tg, iter, ifs, ia⟩ := g
      obtain ⟨tg1, iter1, ifs1, ia1⟩ := g1
      simp only at h
      split at h
      · rename_i hh
        obtain ⟨rfl, rfl, hB, hlen, hlen1⟩ := hh
        have fk : ∀ {sc : Scope} {X : Cx} {B : Sx}, Cn G sc X B L n → Fok X B L (compE G m sc) := fun {sc X B} c e e' h => ⟨compE_ok m h c, fun r => compE_star h r _, fun x => compE_fold h _ x⟩
        cases h1 : compTg G.N scope tg with
        | none => rw [h1] at h; cases h
        | some tgt =>
          cases h1' : compTg G.N scope tg1 with
          | none => rw [h1, h1'] at h; cases h
          | some tgt1 =>
          rw [h1, h1'] at h
          simp only [Option.bind_some] at h
          split at h
          · rename_i hsub
            cases h2 : compI (compE G m sc) G.T sc tg iter with
            | none => rw [h2] at h; cases h
            | some ki =>
              obtain ⟨k, es'⟩ := ki
              cases h3 : compL (compE G m (relS scope sc)) ifs with
              | none => rw [h2, h3] at h; cases h
              | some cs =>
                cases h2' : compI (compE G m (relS scope sc)) G.T (relS scope sc) tg1 iter1 with
                | none => rw [h2, h3, h2'] at h; cases h
                | some ki1 =>
                obtain ⟨k1, es1'⟩ := ki1
                cases h3' : compL (compE G m (relS scope sc)) ifs1 with
                | none => rw [h2, h3, h2', h3'] at h; cases h
                | some cs1 =>
                cases h4 : compE G m (relS scope sc) elt with
                | none => rw [h2, h3, h2', h3', h4] at h; cases h
                | some elt' =>
                  rw [h2, h3, h2', h3', h4] at h; cases h
                  obtain ⟨i1, i2⟩ := compI_ok c.toCn (fk c.toCn) h2
                  have hx : X.env.scope.names.lookup x = some .local := by
                    rw [c.scp]
                    simp only [swB, Bool.and_eq_true, beq_iff_eq] at hs
                    exact hs.1.1
                  have tests : ∀ {ifs : List Expr} {cs : List E}, ifs.length ≤ 1 → compL (compE G m (relS scope sc)) ifs = some cs → ∀ (s : Shared) (H : Hp) (C : Addr) (cl : List (Str × Addr)) (fp : List Addr), PTs (X.blk s H scope (compEnvC scope cl C X.env) fp) ifs (rdH B.quiet L cs) := by
                    intro ifs cs hlen h3 s H C cl fp
                    rcases ifs with _ | ⟨b, _ | ⟨b2, r⟩⟩
                    · simp only [compL] at h3; cases h3; exact snd_H0
                    · simp only [compL] at h3
                      cases h5 : compE G m (relS scope sc) b with
                      | none => rw [h5] at h3; cases h3
                      | some b' => rw [h5] at h3; cases h3; exact snd_H1 (compE_ok m h5 (c.toCn.blk s H C cl fp)).pt
                    · simp at hlen
                  exact (ps_setLc2 c.calm (c.N ▸ c.nd) hi hx (by rw [sw_lc (by rw [c.scp]; exact c.kind), c.scp, hs0]) i1 (by rw [c.N, c.scp]; exact blkOk_by hB) hsub.2
                    (fun s H C cl fp => compTg_ok (tg_blk s H C cl fp) (c.toCn.blk s H C cl fp) h1) (tests hlen h3) (fun s H C cl fp => (compI_ok (c.toCn.blk s H C cl fp) (fk (c.toCn.blk s H C cl fp)) h2').1)
                    (fun s H C cl fp => compTg_ok (tg_blk s H C cl fp) (c.toCn.blk s H C cl fp) h1') (tests hlen1 h3') (fun s H C cl fp => (compE_ok m h4 (c.toCn.blk s H C cl fp)).pe) i2 (fun env x => compI_fold h2' env x)).imp fun D σ H h => rd_lc2 hsub.1 hsub.2 (rd_set hz h)
          · cases h
      · cases h
    · cases h
end Pi

set_option Elab.async false
set_option linter.all false
set_option maxRecDepth 100000
set_option maxHeartbeats 4000000
/-! PiS: the statements' trees keep to the interpreter's: the theorem. -/
namespace Pi
open PySem PySem.Spec PyProof.Rows L2
variable [HasT]

theorem lookup_mem0 {α β : Type} [BEq α] [LawfulBEq α] {x : α} {y : β} : ∀ {l : List (α × β)}, l.lookup x = some y → (x, y) ∈ l
  | [], h => by cases h
  | (a, b) :: r, h => by
    rw [List.lookup_cons] at h
    split at h
    · rename_i e
      cases h
      rw [beq_iff_eq.mp e]
      exact List.mem_cons_self
    · exact List.mem_cons_of_mem _ (lookup_mem0 h)
theorem compS_ok {G : CG} {L : Lib} {n : Nat} {sc : Scope} : ∀ (m : Nat) {st : Stmt} {s' : S}, compS G sc m st = some s' → ∀ {X : Cx} {B : Sx}, CnS G sc X B L n → PS X st (rdS B G.Z L s') := by
  intro m
  induction m with
  | zero => intro st s' h; simp [compS] at h
  | succ m ih =>
    intro st s' h X B c
    have ok : ∀ {e : Expr} {e' : E}, compE G (m + 1) sc e = some e' → Snd X B L e e' := fun {e e'} h => compE_ok (m + 1) h c.toCn
    have fk : Fok X B L (compE G (m + 1) sc) := fun e e' h => ⟨ok h, fun r => compE_star h r _, fun x => compE_fold h _ x⟩
    have sk : ∀ {X : Cx} {B : Sx}, CnS G sc X B L n → ∀ {ss : List Stmt} {ss' : List S}, compSL (compS G sc m) ss = some ss' → PSs X ss (rdSs B G.Z L ss') := fun {X B} c {ss ss'} h => compSL_ok (fun s s' h => ih h c) h
    have vis : ∀ {x : Str}, visB sc x = true → Vis X.env.scope x := fun {x} h => by rw [c.scp]; exact visB_ok h
    have ixN : ∀ {x : Str} {i : Nat}, idxN G.N x = some i → X.N[i]? = some x := fun {x i} h => by rw [c.N]; exact idxN_ok h
    have nd : X.N.Nodup := c.N ▸ c.nd
    have kd : X.env.scope.kind = .function := by rw [c.scp]; exact c.kind
    change stepS G (compE G (m + 1) sc) (compSL (compS G sc m)) sc st = some s' at h
    unfold stepS at h
    split at h
    · cases h; exact snd_pass
    · cases h; exact snd_brk
    · cases h; exact snd_cnt
    · rename_i x xp attr ap e cp ep
      split at h
      · rename_i hh
        obtain ⟨h1, h2, h3⟩ := hh
        split at h
        · rename_i ha
          subst ha
          cases h4 : idxN G.N x with
          | none => rw [h4] at h; cases h
          | some i =>
            cases h5 : compE G (m + 1) sc e with
            | none => rw [h4, h5] at h; cases h
            | some y =>
              rw [h4, h5] at h; cases h
              exact snd_app (ixN h4) (vis h1) (okN_ok h2).1 (okN_ok h2).2 (ok h5).pe (compE_star h5 _ _) h3
        · split at h
          · rename_i ha
            subst ha
            cases h4 : idxN G.N x with
            | none => rw [h4] at h; cases h
            | some i =>
              cases h5 : compE G (m + 1) sc e with
              | none => rw [h4, h5] at h; cases h
              | some y =>
                rw [h4, h5] at h; cases h
                exact snd_ext (ixN h4) (vis h1) (okN_ok h2).1 (okN_ok h2).2 (ok h5).pe (compE_star h5 _ _) h3
          · cases h
      · cases h
    · rename_i e p _
      split at h
      · cases h
      · rename_i hc
        cases h5 : compE G (m + 1) sc e with
        | none => rw [h5] at h; cases h
        | some y =>
          rw [h5] at h; cases h
          exact snd_expr (ok h5).pe (sw_no (by simpa using hc) _ _ _)
    · cases h; exact snd_retN
    · rename_i x xp p
      split at h
      · rename_i hh
        cases h4 : idxN G.N x with
        | none => rw [h4] at h; cases h
        | some i =>
          rw [h4] at h; cases h
          exact snd_retV (ixN h4) (vis hh.1) (okN_ok hh.2).1 (okN_ok hh.2).2
      · cases h
    · rename_i e p _
      cases h5 : compE G (m + 1) sc e with
      | none => rw [h5] at h; cases h
      | some y =>
        rw [h5] at h
        simp only [Option.bind_some] at h
        split at h
        · cases h
        · rename_i hv
          cases h
          exact snd_ret (fun i hi => hv i hi) (ok h5).pe
    · -- name = value
      rename_i x xp e p
      split at h
      · rename_i hl
        cases h4 : idxN G.N x with
        | none => rw [h4] at h; cases h
        | some i =>
          rw [h4] at h
          simp only [Option.bind_some] at h
          split at h
          · rename_i hz
            cases h5 : compE G (m + 1) sc e with
            | none => rw [h5] at h; cases h
            | some y =>
              rw [h5] at h; cases h
              by_cases hs : swB sc x xp e = true
              · exact lc_set c (ixN h4) hz h5 hs
              · obtain ⟨t1, t2⟩ := c.tg x (locB_ok hl)
                refine snd_set hz nd (ixN h4) t1 t2 (ok h5).pe ?_
                by_cases hcm : isComp e = true
                · cases e <;> first | (simp [isComp] at hcm; done) | skip
                  · rw [sw_lc kd, c.scp, Bool.eq_false_iff.mpr hs]
                  · simp [compE, stepE] at h5
                  · simp [compE, stepE] at h5
                · exact sw_no (Bool.eq_false_iff.mpr hcm) _ _ _
          · cases h
      · cases h
    · -- names = values
      rename_i ts tk tp vs k vp p
      cases h1 : compNs G.N sc ts with
      | none => rw [h1] at h; cases h
      | some is =>
        have pn := compNs_ok c.tg c.toCn h1
        rw [h1] at h
        simp only [Option.bind_some] at h
        split at h
        · rename_i hz
          split at h
          · cases h
          · rename_i hsw
            cases h5 : compL (compE G (m + 1) sc) vs with
            | none => rw [h5] at h; cases h
            | some ys =>
              rw [h5] at h
              simp only [Option.bind_some] at h
              split at h
              · rename_i hlen
                cases h
                have fk : Fok X B L (compE G (m + 1) sc) := fun e e' h => ⟨ok h, fun r => compE_star h r _, fun x => compE_fold h _ x⟩
                exact snd_parT hz c.K c.calm nd (compL_okF fk h5) hlen pn (ss_t kd (by rw [c.scp]; exact hsw)) (sw_tup _ _) rfl
              · cases h
          · rename_i ns hsw
            split at h
            · rename_i hn
              obtain ⟨hnd, hal⟩ := hn
              split at h
              · rename_i x xp y yp a b i j
                split at h
                · rename_i hns
                  subst hns
                  cases h5 : compE G (m + 1) sc a with
                  | none => rw [h5] at h; cases h
                  | some a' =>
                    cases h6 : compE G (m + 1) sc b with
                    | none => rw [h5, h6] at h; cases h
                    | some b' =>
                      rw [h5, h6] at h; cases h
                      obtain ⟨n1, n2⟩ := pns2 pn
                      have hne : i ≠ j := by
                        intro z; subst z
                        simp at hnd
                      refine snd_par2 hz c.calm nd n1 n2 hne (by rw [c.scp]; exact allLoc_ok hal (by simp)) (by rw [c.scp]; exact allLoc_ok hal (by simp)) (snd_consF (ok h5).pe (snd_consF (ok h6).pe snd_nilF (compE_star h6 _ _)) (compE_star h5 _ _)) (ss_t kd (by rw [c.scp]; exact hsw)) (sw_tup _ _)
                · cases h
              · rename_i x xp y yp z zp a b d i j l
                split at h
                · rename_i hns
                  subst hns
                  cases h5 : compE G (m + 1) sc a with
                  | none => rw [h5] at h; cases h
                  | some a' =>
                    cases h6 : compE G (m + 1) sc b with
                    | none => rw [h5, h6] at h; cases h
                    | some b' =>
                      cases h7 : compE G (m + 1) sc d with
                      | none => rw [h5, h6, h7] at h; cases h
                      | some d' =>
                        rw [h5, h6, h7] at h; cases h
                        obtain ⟨n1, n2, n3⟩ := pns3 pn
                        simp only [List.nodup_cons, List.mem_cons, List.not_mem_nil, or_false, not_or] at hnd
                        obtain ⟨⟨e1, e2⟩, e3, _⟩ := hnd
                        refine snd_par3 hz c.calm nd n1 n2 n3 e1 e2 e3 (by rw [c.scp]; exact allLoc_ok hal (by simp)) (by rw [c.scp]; exact allLoc_ok hal (by simp)) (by rw [c.scp]; exact allLoc_ok hal (by simp))
                          (snd_consF (ok h5).pe (snd_consF (ok h6).pe (snd_consF (ok h7).pe snd_nilF (compE_star h7 _ _)) (compE_star h6 _ _)) (compE_star h5 _ _)) (ss_t kd (by rw [c.scp]; exact hsw)) (sw_tup _ _)
                · cases h
              · cases h
            · cases h
        · cases h
    · rename_i ts tk tp e p hnt
      cases h1 : compNs G.N sc ts with
      | none => rw [h1] at h; cases h
      | some is =>
        have pn := compNs_ok c.tg c.toCn h1
        rw [h1] at h
        simp only [Option.bind_some] at h
        split at h
        · rename_i hz
          cases h5 : compE G (m + 1) sc e with
          | none => rw [h5] at h; cases h
          | some y =>
            rw [h5] at h; cases h
            have ht : isTupE e = false := by
              cases e <;> first | rfl | exact absurd rfl (hnt _ _ _)
            exact snd_unp hz (ok h5).pe (snd_gtup c.K c.calm nd pn) (ss_nt ht _) (sw_tup _ _) rfl
        · cases h
    · rename_i x xp i ip e p
      split at h
      · rename_i hh
        cases h4 : idxN G.N x with
        | none => rw [h4] at h; cases h
        | some j =>
          cases h5 : compE G (m + 1) sc i with
          | none => rw [h4, h5] at h; cases h
          | some i' =>
            cases h6 : compE G (m + 1) sc e with
            | none => rw [h4, h5, h6] at h; cases h
            | some y =>
              rw [h4, h5, h6] at h; cases h
              refine snd_seti (ixN h4) (vis hh.1) (okN_ok hh.2).1 (okN_ok hh.2).2 (ok h6).pe (ok h5).pa (sw_sub _ _) (ss_sub _) rfl fun v => ?_
              cases i <;> first | rfl | (simp [compE, stepE] at h5; done)
      · cases h
    · rename_i x xp op e p
      split at h
      · rename_i hl
        cases h3 : augB op with
        | none => rw [h3] at h; cases h
        | some o =>
          cases h4 : idxN G.N x with
          | none => rw [h3, h4] at h; cases h
          | some i =>
            rw [h3, h4] at h
            simp only [Option.bind_some] at h
            split at h
            · rename_i hz
              cases h5 : compE G (m + 1) sc e with
              | none => rw [h5] at h; cases h
              | some y =>
                rw [h5] at h; cases h
                obtain ⟨t1, t2⟩ := c.tg x (locB_ok hl)
                refine snd_aug hz ?_ nd (ixN h4) t1 t2 (ok h5).pa
                cases op <;> simp [augB] at h3 <;> subst h3 <;> simp
            · cases h
      · cases h
    · rename_i cc p q pos
      cases h1 : compE G (m + 1) sc cc with
      | none => rw [h1] at h; cases h
      | some c' =>
        cases h2 : compSL (compS G sc m) p with
        | none => rw [h1, h2] at h; cases h
        | some p' =>
          cases h3 : compSL (compS G sc m) q with
          | none => rw [h1, h2, h3] at h; cases h
          | some q' =>
            rw [h1, h2, h3] at h; cases h
            exact snd_if (ok h1).pt (sk c h2) (sk c h3)
    · rename_i cc b pos
      cases h1 : compE G (m + 1) sc cc with
      | none => rw [h1] at h; cases h
      | some c' =>
        cases h2 : compSL (compS G sc m) b with
        | none => rw [h1, h2] at h; cases h
        | some p' =>
          rw [h1, h2] at h; cases h
          exact snd_while c.own (ok h1).pt (sk c h2)
    · rename_i tg it b pos
      cases h1 : compTg G.N sc tg with
      | none => rw [h1] at h; cases h
      | some tgt =>
        rw [h1] at h
        simp only [Option.bind_some] at h
        split at h
        · rename_i hz
          cases h2 : compI (compE G (m + 1) sc) G.T sc tg it with
          | none => rw [h2] at h; cases h
          | some ki =>
            cases h3 : compSL (compS G sc m) b with
            | none => rw [h2, h3] at h; cases h
            | some b' =>
              rw [h2, h3] at h; cases h
              obtain ⟨i1, i2⟩ := compI_ok c.toCn fk (k := ki.1) (es' := ki.2) h2
              exact snd_for hz c.own c.calm i1 (compTg_ok c.tg c.toCn h1) (sk c h3) i2
        · cases h
    · rename_i x xp msg j p2 p3 pos
      split at h
      · rename_i hh
        cases h1 : G.T.cls.lookup x with
        | none => rw [h1] at h; cases h
        | some k =>
          rw [h1] at h; cases h
          obtain ⟨Ca, O, M⟩ := c.T.cls x k h1
          obtain ⟨⟨BB, newId, initId, bmB, FB, q⟩, mkx⟩ := M hh.2.2
          exact snd_raise c.calm c.tk FB q O.glob O.keep (raises_own O.sub O.typ) (c.gl hh.1) (okN_ok hh.2.1).1 fun U H => mkx U H
      · cases h
    · rename_i x xp e p3 pos _
      split at h
      · rename_i hh
        cases h1 : G.T.fld.lookup x with
        | none => rw [h1] at h; cases h
        | some p =>
          cases h2 : compE G (m + 1) sc e with
          | none => rw [h1, h2] at h; cases h
          | some y =>
            rw [h1, h2] at h; cases h
            obtain ⟨Ca, q1, q2, q3⟩ := c.T.fldc x p.1 p.2 (lookup_mem0 h1)
            exact snd_raisE (n := 1) c.K c.calm c.tk q2 (c.room.mono c.big) q1 (c.gl hh.1) (okN_ok hh.2).1 (ok h2).pe (compE_star h2 [] _) q3
      · cases h
    · rename_i b h0 hds pos
      cases h1 : compHs G sc (h0 :: hds) with
      | none => rw [h1] at h; cases h
      | some r =>
        cases h2 : compSL (compS G sc m) b with
        | none => rw [h1, h2] at h; cases h
        | some b' =>
          rw [h1, h2] at h; cases h
          obtain ⟨l, hl⟩ := compHs_ok c h1
          exact snd_try_mix c.stk c.frm nd c.tk c.T.xf (fun W pn xe tk po => sk (c.try tk po) h2) hl
    · cases h
theorem compSs_ok {G : CG} {L : Lib} {n m : Nat} {sc : Scope} {ss : List Stmt} {ss' : List S} (h : compSs G sc m ss = some ss') {X : Cx} {B : Sx} (c : CnS G sc X B L n) : PSs X ss (rdSs B G.Z L ss') :=
  compSL_ok (fun _ _ h => compS_ok m h c) h
end Pi

set_option Elab.async false
set_option linter.all false
set_option maxRecDepth 100000
set_option maxHeartbeats 4000000
/-! PiT: the whole text; what the head tells. -/
namespace Pi
open PySem PySem.Spec PyProof.Rows L2

structure DefI where
  name : Str
  st : Stmt
  N : List Str
  np : Nat
  Z : List Nat
  bor : List Bool
  pats : List (Nat × List Str × List Nat)
def DefI.ps (d : DefI) : List Str := d.N.take d.np
def DefI.d (d : DefI) : He.DefD := ⟨(d.name, none), d.name, d.name, defArgs d.st, defBody d.st, defScope d.st, [], []⟩
def DefI.fn (T : Tab) (d : DefI) : Option Fn := (compSs ⟨T, d.N, d.Z, decide (T.lam = some d.name)⟩ (defScope d.st) 60 (defBody d.st)).map fun b => ⟨d.np, d.N.length, d.bor, b⟩
theorem call_init_eq {ce : Str} {p0 p1 p8 : Pos} {es : List Expr} {env : PySem.Env} (hl : (p1.endLine == p8.line) = true) (hf : methodCallForm es.length (backTo p8 (starEach es env)) (backToKw p8 (keywordEach [] env)) = true) : PySem.eval (.Call (.Attribute (.Name ce p0) "__init__" p1) es [] p8) env = (do
      let ov ← PySem.eval (.Name ce p0) env
      standAt p1.atName
      let (f, first) ← holding [ov] (getMethod ov "__init__" (plainOf (.Name ce p0) env))
      callWith p8 f first (backTo p8 (starEach es env)) (backToKw p8 (keywordEach [] env))) := by
  have e : PySem.eval (.Call (.Attribute (.Name ce p0) "__init__" p1) es [] p8) env = (do
      let ov ← PySem.eval (.Name ce p0) env
      standAt p1.atName
      methodCall (.Name ce p0) "__init__" p1 p8 env ov es.length (backTo p8 (starEach es env)) (backToKw p8 (keywordEach [] env))) := rfl
  rw [e]
  congr 1
  funext ov
  congr 1
  funext _
  exact mcall_line hf hl
/-- an own error with a field: its class, number, field; its __init__ -/
structure FldI where
  cls : Str
  idx : Nat
  fld : Str
  st : Stmt
def clsFn : Stmt → Stmt
  | .ClassDef _ _ _ (s :: _) _ _ _ _ _ _ _ => s
  | s => s
structure InitP where
  ce : Str
  pre : Str
  self : Str
  par : Str
  f : Str
  k : Nat
  p : Nat → Pos
def initOf (b : List Stmt) : Option InitP := match b with
  | [.Expr (.Call (.Attribute (.Name ce q0) a q1) [.Name self q2, .BinOp (.Constant (.str pre) k q3) .Add (.Call (.Name st q4) [.Name x q5] [] q6) q7] [] q8) q9, .Assign [.Attribute (.Name self2 q10) f q11] (.Name x2 q12) q13] =>
    if a = ("__init__" : Str) ∧ st = ("str" : Str) ∧ self2 = self ∧ x2 = x ∧ (q1.endLine == q8.line) = true then some ⟨ce, pre, self, x, f, k, fun i => [q0, q1, q2, q3, q4, q5, q6, q7, q8, q9, q10, q11, q12, q13].getD i q0⟩ else none
  | _ => none
theorem initOf_ok {b : List Stmt} {r : InitP} (h : initOf b = some r) : b = initB r.ce r.pre r.self r.par r.f r.k r.p := by
  unfold initOf at h
  split at h
  · split at h
    · rename_i hh
      obtain ⟨rfl, rfl, rfl, rfl, _⟩ := hh
      cases h
      rfl
    · cases h
  · cases h
theorem initOf_line {b : List Stmt} {r : InitP} (h : initOf b = some r) : ((r.p 1).endLine == (r.p 8).line) = true := by
  unfold initOf at h
  split at h
  · split at h
    · rename_i hh
      cases h
      exact hh.2.2.2.2
    · cases h
  · cases h
def FldI.d (i : FldI) : He.DefD := ⟨(i.cls, some "__init__"), "__init__", i.cls ++ ".__init__", defArgs i.st, defBody i.st, defScope i.st, [], []⟩
def FldI.okB (i : FldI) : Bool := match initOf (defBody i.st) with
  | some r => decide (r.f = i.fld) && initScB (defScope i.st) r.self r.par r.ce && decide (r.pre.length ≤ 1000)
  | none => false
def FldI.Bd (i : FldI) : Prop := ∀ (kV doc pm : Value) (an : Option Addr) (cdv ct : Value) (us : List Value), us.length = 2 → ∀ r, initOf (defBody i.st) = some r →
  bindArgs (PySem.W.fnOf "__init__" (i.cls ++ ".__init__") (defArgs i.st) (defBody i.st) (defScope i.st) .none kV doc pm an cdv ct) ⟨us, []⟩ = pure ([r.self, r.par].zip us)
def scopeB (d : DefI) (sc : Scope) : Bool := (match sc.kind with | .function => true | _ => false) && !sc.isCoroutine && !sc.isGenerator && decide d.N.Nodup && d.ps.all (locB sc) && (sc.names.all fun y => match y.2 with | .free => false | _ => true)
def patsB (d : DefI) : Bool := d.pats.all fun q => decide (q.2.2.length = d.np) && q.2.2.all fun k => decide (k < q.1 + q.2.1.length)
def borB (d : DefI) : Bool := (List.range d.bor.length).all fun i => match d.bor[i]? with | some true => decide (i ∉ d.Z) | _ => true
def DefI.okB (d : DefI) : Bool := scopeB d (defScope d.st) && decide (d.np ≤ d.N.length) && decide (d.bor.length = d.np) && borB d && patsB d
/-- the ways it is called bind -/
def DefI.Bd (d : DefI) : Prop := ∀ q ∈ d.pats, ∀ (kV doc pm : Value) (an : Option Addr) (cdv ct : Value) (us ws : List Value), us.length = q.1 → ws.length = q.2.1.length →
  bindArgs (PySem.W.fnOf d.name d.name (defArgs d.st) (defBody d.st) (defScope d.st) .none kV doc pm an cdv ct) ⟨us, q.2.1.zip ws⟩ = pure (d.ps.zip (q.2.2.map fun k => (us ++ ws).getD k .none))
def tabFns (defs : List DefI) : List (Str × Nat × List (Nat × List Str × List Nat)) := (defs.zip (List.range defs.length)).map fun p => (p.1.name, p.2, p.1.pats)

theorem scopeB_ok {d : DefI} {sc : Scope} (h : scopeB d sc = true) : FnScope d.N d.ps sc := by
  unfold scopeB at h
  simp only [Bool.and_eq_true, Bool.not_eq_true'] at h
  haveI : HasT := ⟨[]⟩
  obtain ⟨⟨⟨⟨⟨h1, h2⟩, h3⟩, h4⟩, h5⟩, h6⟩ := h
  refine ⟨?_, h2, h3, of_decide_eq_true h4, ?_, fun x hx => locB_ok (List.all_eq_true.mp h5 x hx), fun y hy => ?_⟩
  · split at h1
    · assumption
    · cases h1
  · unfold DefI.ps
    rw [List.length_take, List.take_eq_take_iff]
    omega
  · have := List.all_eq_true.mp h6 y hy
    intro z
    rw [z] at this
    cases this
theorem borB_ok {d : DefI} (h : borB d = true) : ∀ i, d.bor[i]? = some true → i ∉ d.Z := fun i hi => by
  have hl : i < d.bor.length := (List.getElem?_eq_some_iff.mp hi).1
  have := List.all_eq_true.mp h i (List.mem_range.mpr hl)
  rw [hi] at this
  exact of_decide_eq_true this

/-! ### the own errors -/
def excCB (K : PySem.W.Frag) (D : Addr) : Bool := He.eqO (PySem.W.findIn K (.ref D) "__getattribute__") (some (some (.builtin "BaseException.__getattribute__"))) && He.eqO (PySem.W.findIn K (.ref D) "__getattr__") (some none) &&
  decide (PySem.W.subIn K (.ref D) (.type "BaseException") = some true) && PySem.W.hasDictIn K D && He.eqO (PySem.W.findIn K (.ref D) "__class__") (some (some (.builtin "object.__class__"))) &&
  He.eqO (PySem.W.specialIn K (.builtin "object.__class__") "__get__") (some (some (.builtin "getset_descriptor.__get__"))) && decide (PySem.W.takesIn K (.builtin "object.__class__") = some true) && decide (PySem.W.mroIn K D (.type "object") = some true)
theorem excCB_ok {K : PySem.W.Frag} {D : Addr} (h : excCB K D = true) : ExcC K D := by
  unfold excCB at h
  simp only [Bool.and_eq_true] at h
  obtain ⟨⟨⟨⟨⟨⟨⟨h1, h2⟩, h3⟩, h4⟩, h5⟩, h6⟩, h7⟩, h8⟩ := h
  exact ⟨He.eqO_ok h1, He.eqO_ok h2, of_decide_eq_true h3, h4, He.eqO_ok h5, He.eqO_ok h6, of_decide_eq_true h7, of_decide_eq_true h8⟩
def subOf (sub : List (List Bool)) (a b : Nat) : Bool := (sub.getD a []).getD b false
def cls2B (K : PySem.W.Frag) (sub : List (List Bool)) (p q : Str × Nat) : Bool := decide (PySem.W.exmOne K (.ref (He.ga K p.1)) (.ref (He.ga K q.1)) = some (subOf sub p.2 q.2)) && decide (PySem.W.kitOne K (.ref (He.ga K p.1)) (.ref (He.ga K q.1)) = some (subOf sub p.2 q.2))
def cls1B (K : PySem.W.Frag) (fl : List (Str × Nat × Str)) (p : Str × Nat) : Bool := (He.Fa.glo p.1).ok K && (PySem.W.keepIn K (.ref (He.ga K p.1)) && decide (PySem.W.subIn K (.ref (He.ga K p.1)) (.type "BaseException") = some true) && decide (PySem.W.typeIn K (.ref (He.ga K p.1)) = some (.type "type")) &&
  ((fl.lookup p.1).isSome || (He.Fa.exc p.1).ok K)) && excCB K (He.ga K p.1)
def clsB (K : PySem.W.Frag) (fl : List (Str × Nat × Str)) (cs : List (Str × Nat)) (sub : List (List Bool)) : Bool := cs.all fun p => cls1B K fl p && cs.all fun q => cls2B K sub p q
def noLst (K : PySem.W.Frag) : Bool := K.all fun p => match p.2.cls with
  | .type c => !(c == "list")
  | _ => true
mutual
/-- a constant of the text, as it stands in the written part -/
def repB (K : PySem.W.Frag) : D → Value → Bool
  | .non, .none => true
  | .bl b, .bool c => b == c
  | .int i, .int j _ => decide (i = j)
  | .str x, .str y _ => decide (x = y) && decide (PyData.strOk x = true ∧ x.length ≤ 100000)
  | .tup ds, .ref a => match K.lookup a with
    | some o => (match o.cls, o.data with
      | .type c, .seq its _ => decide (c = "tuple") && decide (its.size ≤ 100000) && repBs K ds its.toList
      | _, _ => false)
    | none => false
  | _, _ => false
def repBs (K : PySem.W.Frag) : List D → List Value → Bool
  | [], [] => true
  | d :: ds, v :: vs => repB K d v && repBs K ds vs
  | _, _ => false
end
mutual
theorem repB_ok {K : PySem.W.Frag} : ∀ {d : D} {u : Value}, repB K d u = true → ∃ v, RelV v u ∧ ∀ U H, Rep K U H v d
  | .non, u, h => by
    cases u <;> first | (simp [repB] at h; done) | exact ⟨.non, rfl, fun U H => .non⟩
  | .bl b, u, h => by
    cases u <;> first | (simp [repB] at h; done) | skip
    simp only [repB, beq_iff_eq] at h
    subst h
    exact ⟨.bl _, rfl, fun U H => .bl _⟩
  | .int i, u, h => by
    cases u <;> first | (simp [repB] at h; done) | skip
    simp only [repB, decide_eq_true_eq] at h
    subst h
    exact ⟨.int _, ⟨_, rfl⟩, fun U H => .int _⟩
  | .str x, u, h => by
    cases u <;> first | (simp [repB] at h; done) | skip
    simp only [repB, Bool.and_eq_true, decide_eq_true_eq] at h
    obtain ⟨rfl, h⟩ := h
    exact ⟨.str _, ⟨_, rfl⟩, fun U H => .str _ h⟩
  | .tup ds, u, h => by
    cases u <;> first | (simp [repB] at h; done) | skip
    rename_i a
    simp only [repB] at h
    cases hl : K.lookup a with
    | none => rw [hl] at h; simp at h
    | some o =>
      rw [hl] at h
      simp only at h
      split at h
      · rename_i c its n hc hd
        simp only [Bool.and_eq_true, decide_eq_true_eq] at h
        obtain ⟨⟨rfl, hz⟩, hs⟩ := h
        obtain ⟨vs, r1, r2⟩ := repBs_ok hs
        haveI : HasT := ⟨[]⟩
        exact ⟨.ref a, rfl, fun U H => .tup (.inr ⟨o, its, n, hl, hc, hd, Nat.le_trans hz line100, r1⟩) (r2 U H)⟩
      · cases h
  | .lst ds, u, h => by simp [repB] at h
theorem repBs_ok {K : PySem.W.Frag} : ∀ {ds : List D} {us : List Value}, repBs K ds us = true → ∃ vs, Vals vs us ∧ ∀ U H, RepAll K U H vs ds
  | [], us, h => by
    cases us with
    | nil => exact ⟨[], .nil, fun U H => .nil⟩
    | cons a r => simp [repBs] at h
  | d :: ds, us, h => by
    cases us with
    | nil => simp [repBs] at h
    | cons u us =>
      simp only [repBs, Bool.and_eq_true] at h
      obtain ⟨v, r1, r2⟩ := repB_ok h.1
      obtain ⟨vs, s1, s2⟩ := repBs_ok h.2
      exact ⟨v :: vs, .cons r1 s1, fun U H => .cons (r2 U H) (s2 U H)⟩
end
def conB (K : PySem.W.Frag) (con : List D) (p : Str × Nat) : Bool := match PySem.W.nsIn K mainGlobals p.1, con[p.2]? with
  | some (some u), some d => repB K d u
  | _, _ => false
def dicOk (K : PySem.W.Frag) (dic : List (List (List Int × Int))) (p : Str × Nat) : Bool := match PySem.W.nsIn K mainGlobals p.1, dic[p.2]? with
  | some (some u), some d => dicB K d u
  | _, _ => false
/-- the class of an error with a field -/
def oexB (K : PySem.W.Frag) (C : Addr) : Bool := (match K.lookup C with
  | some ⟨.type "type", _, .cls cd, sl⟩ => (match cd.mro, sl.toList with
    | .ref C' :: bm, [_, _, _, _, some (.builtin n), _] => C' == C && n == "ValueError.__new__" && !cd.hasDel && cd.hasDict && PySem.HandSPX.refsVE bm
    | _, _ => false)
  | _ => false) && He.eqO (PySem.W.findIn K (.ref C) "__setattr__") (some (some (.builtin "object.__setattr__"))) && decide (PySem.W.subIn K (.ref C) (.type "BaseException") = some true) && decide (PySem.W.typeIn K (.ref C) = some (.type "type")) && PySem.W.keepIn K (.ref C)
theorem oexB_ok {K : PySem.W.Frag} {C : Addr} (h : oexB K C = true) : OexC K C := by
  unfold oexB at h
  simp only [Bool.and_eq_true] at h
  obtain ⟨⟨⟨⟨h1, h2⟩, h3⟩, h4⟩, h5⟩ := h
  refine ⟨?_, He.eqO_ok h2, of_decide_eq_true h3, of_decide_eq_true h4, h5⟩
  split at h1
  · rename_i dd cd sl ho
    split at h1
    · rename_i C' bm k0 k1 k2 k3 n k5 hm hs
      simp only [Bool.and_eq_true, beq_iff_eq, Bool.not_eq_true'] at h1
      obtain ⟨⟨⟨⟨rfl, rfl⟩, hdel⟩, hdict⟩, ht⟩ := h1
      obtain ⟨nm, bs, mro, ns, qn, hd, sn, sub, ab, col, del⟩ := cd
      dsimp only at hm hdel hdict
      subst hm hdel hdict
      have hsl : sl = #[k0, k1, k2, k3, some (.builtin "ValueError.__new__"), k5] := by
        obtain ⟨l⟩ := sl
        simp only at hs
        rw [hs]
      subst hsl
      exact ⟨nm, qn, ns, bs, bm, sn, sub, ab, col, dd, k0, k1, k2, k3, k5, ho, ht⟩
    · cases h1
  · cases h1
def parB (K : PySem.W.Frag) (CE : Addr) : Bool := decide (PySem.W.specialIn K (.ref CE) "__getattribute__" = some (some (.builtin "type.__getattribute__"))) && PySem.W.readsIn K CE (.type "type") &&
  (match PySem.W.findCls K (.ref CE) (.type "type") "__init__" with | some (.val (.builtin n)) => n == "ValueError.__init__" | _ => false)
theorem parB_ok {K : PySem.W.Frag} {CE : Addr} (h : parB K CE = true) : ParC K CE := by
  unfold parB at h
  simp only [Bool.and_eq_true] at h
  obtain ⟨⟨h1, h2⟩, h3⟩ := h
  refine ⟨of_decide_eq_true h1, h2, ?_⟩
  split at h3
  · rename_i n e
    rw [e, beq_iff_eq.mp h3]
  · cases h3
/-- one such error -/
def fldB (K : PySem.W.Frag) (i : FldI) : Bool := (He.Fa.glo i.cls).ok K && oexB K (He.ga K i.cls) && He.eqO (PySem.W.findIn K (.ref (He.ga K i.cls)) i.fld) (some none) && xfB K (He.ga K i.cls) &&
  He.eqO (PySem.W.findIn K (.ref (He.ga K i.cls)) "__init__") (some (some (.ref (He.ma K (He.ga K i.cls) "__init__")))) && decide (PySem.W.typeIn K (.ref (He.ma K (He.ga K i.cls) "__init__")) = some (.type "function")) && i.okB &&
  (match initOf (defBody i.st) with | some r => (He.Fa.glo r.ce).ok K && parB K (He.ga K r.ce) | none => false) && (He.Fa.free ("str" : Str)).ok K
def tabFld (fl : List FldI) : List (Str × Nat × Str) := fl.map fun i => (i.cls, i.idx, i.fld)
/-- what the head is to tell of the names -/
def tabB (T : Tab) (sub : List (List Bool)) (con : List D) (dic : List (List (List Int × Int))) (K : PySem.W.Frag) : Bool := (T.fns.all fun p => (He.Fa.glo p.1).ok K) && (T.blt.all fun x => (He.Fa.free x).ok K) && (!T.gcd || He.eqO (PySem.W.nsIn K mainGlobals "gcd") (some (some (.builtin "math.gcd")))) && clsB K T.fld T.cls sub && noLst K && T.con.all (conB K con) && T.dic.all (dicOk K dic) && (!T.lcm || He.eqO (PySem.W.nsIn K mainGlobals "lcm") (some (some (.builtin "math.lcm"))))
/-- errors, with a field or without -/
def xrOf (T : Tab) (K : PySem.W.Frag) : XRt := fun x cls d _ H => ∃ nm, (nm, x.cls) ∈ T.cls ∧ cls = .ref (He.ga K nm) ∧ match x.fld with
  | none => d = none
  | some (f, dv) => (nm, x.cls, f) ∈ T.fld ∧ ∃ dd v, d = some dd ∧ H dd = some (.xd [(f, v)]) ∧ FlV dv v
theorem lookup_mem' {α β : Type} [BEq α] [LawfulBEq α] {x : α} {y : β} : ∀ {l : List (α × β)}, l.lookup x = some y → (x, y) ∈ l
  | [], h => by cases h
  | (a, b) :: r, h => by
    rw [List.lookup_cons] at h
    split at h
    · rename_i e
      cases h
      rw [beq_iff_eq.mp e]
      exact List.mem_cons_self
    · exact List.mem_cons_of_mem _ (lookup_mem' h)
theorem Bool.and_iff {a b : Bool} (h : (a && b) = true) : a = true ∧ b = true := by simpa using h
theorem clsOk_of {T : Tab} {sub : List (List Bool)} {K : PySem.W.Frag} {h : Heap} {mg : Str → Option Value} {L : Lib} (X : K.In h) (G : h.Ns mainGlobals mg) (hs : L.sub = subOf sub) (hc : clsB K T.fld T.cls sub = true) {x : Str} {c : Nat} (hx : (x, c) ∈ T.cls) :
    ClsOk K mg (xrOf T K) L x c (He.ga K x) ∧ (T.fld.lookup x = none → MkOk K (xrOf T K) c (He.ga K x)) := by
  have all := List.all_eq_true.mp hc
  have one : ∀ p ∈ T.cls, cls1B K T.fld p = true ∧ ∀ q ∈ T.cls, cls2B K sub p q = true := fun p hp => by
    obtain ⟨h1, h2⟩ := Bool.and_iff (all p hp)
    exact ⟨h1, fun q hq => List.all_eq_true.mp h2 q hq⟩
  obtain ⟨h1, _⟩ := one _ hx
  obtain ⟨h12, h3⟩ := Bool.and_iff h1
  obtain ⟨h1, h2⟩ := Bool.and_iff h12
  simp only [Bool.and_eq_true, Bool.or_eq_true] at h2
  obtain ⟨⟨⟨k1, k2⟩, k3⟩, k4⟩ := h2
  refine ⟨⟨He.glo_ok X G h1, k1, of_decide_eq_true k2, of_decide_eq_true k3, fun y cls dx U H r => ?_, fun y cls dx U H r hf => ?_⟩, fun hn => ?_⟩
  · obtain ⟨nm, hm, rfl, _⟩ := r
    have := (one _ hm).2 _ hx
    rw [hs]
    exact of_decide_eq_true (Bool.and_iff this).1
  · obtain ⟨nm, hm, rfl, hd⟩ := r
    rw [hf] at hd
    have := (one _ hm).2 _ hx
    rw [hs]
    exact ⟨hd, _, rfl, excCB_ok (Bool.and_iff (one _ hm).1).2, of_decide_eq_true (Bool.and_iff this).2⟩
  · rcases k4 with k4 | k4
    · rw [hn] at k4; simp at k4
    · obtain ⟨e1, e2, e3, e4⟩ := He.exc_ok k4
      exact ⟨⟨_, _, _, _, PySem.F.excBase_ValueError, e1⟩, fun U H => ⟨x, hx, rfl, rfl⟩⟩

/-! ### every def keeps to the interpreter -/
structure Text where
  defs : List DefI
  T : Tab
  P : Pg
  flds : List FldI := []
structure Text.Ok (t : Text) : Prop where
  comp : t.defs.map (·.fn t.T) = t.P.G.map some
  okB : t.defs.all DefI.okB = true
  fns : t.T.fns = tabFns t.defs
  bd : ∀ d ∈ t.defs, d.Bd
  fld : t.T.fld = tabFld t.flds
  fin : ∀ i ∈ t.flds, (i.cls, i.idx) ∈ t.T.cls
  fbd : ∀ i ∈ t.flds, i.Bd
structure Text.Said (t : Text) (K : PySem.W.Frag) : Prop where
  tab : tabB t.T t.P.sub t.P.con t.P.dic K = true
  defs : ∀ d ∈ t.defs, ∃ fd, FunD K d.name d.name (defArgs d.st) (defBody d.st) (defScope d.st) [] [] (He.ga K d.name) fd
  flds : ∀ i ∈ t.flds, fldB K i = true ∧ ∃ fd, FunD K "__init__" (i.cls ++ ".__init__") (defArgs i.st) (defBody i.st) (defScope i.st) [] [] (He.ma K (He.ga K i.cls) "__init__") fd
/-- the table of the def that makes a lambda -/
structure LamAt [HasT] (t : Text) (K : PySem.W.Frag) (mg : Str → Option Value) (base : Heap) : Prop where
  at_ : ∀ x, t.T.lam = some x → ∃ c P, PySem.W.tabIn K x = some (c, P) ∧ LamX.TabB base mg c P ∧ HasT.T = [(P, (x ++ ".<locals>.") ++ "<lambda>")]
variable [HasT]
theorem fld_of {t : Text} (O : t.Ok) {P : Program} {w : World} {K : PySem.W.Frag} {h base : Heap} {mg : Str → Option Value} (X : K.In h) (G : h.Ns mainGlobals mg) (S : t.Said K) {i : FldI} (hi : i ∈ t.flds) : FldOk P w K mg base 1 i.fld (He.ga K i.cls) := by
  obtain ⟨hb, fd, F⟩ := S.flds i hi
  unfold fldB at hb
  simp only [Bool.and_eq_true] at hb
  obtain ⟨⟨⟨⟨⟨⟨⟨⟨b1, b2⟩, b3⟩, b4⟩, b5⟩, b6⟩, b7⟩, b8⟩, b9⟩ := hb
  unfold FldI.okB at b7
  cases hr : initOf (defBody i.st) with
  | none => rw [hr] at b7; cases b7
  | some r =>
    rw [hr] at b7 b8
    simp only [Bool.and_eq_true, decide_eq_true_eq] at b7 b8
    have e := initOf_ok hr
    have F0 := F
    rw [e] at F
    refine ⟨oexB_ok b2, He.eqO_ok b3, _, fd, [r.self, r.par], He.eqO_ok b5, of_decide_eq_true b6, ?_, ?_⟩
    · rw [← b7.1.1]
      exact init_ok (n := 0) F b7.1.2 (He.glo_ok X G b8.1) (He.free_ok X G b9) (parB_ok b8.2) b7.2 (fun X => rfl) (fun X => ⟨_, call_init_eq (initOf_line hr) rfl⟩)
    · obtain ⟨oc, od, dV, kV, doc, pm, an, cdv, ct, osl, rfl, lk, hcd, hD, hK⟩ := F0.ex
      rcases hD with ⟨_, rfl⟩ | ⟨e, _⟩
      · exact Binds.all fun us hl => O.fbd i hi kV doc pm an cdv ct us hl r hr
      · exact absurd rfl e
theorem all_ok {t : Text} (O : t.Ok) {P : Program} {w : World} {K : PySem.W.Frag} {h base : Heap} {mg : Str → Option Value} (X : K.In h) (G : h.Ns mainGlobals mg) (S : t.Said K) (LA : LamAt t K mg base) :
    ∀ (n i : Nat) (d : DefI), t.defs[i]? = some d → ∃ fd, FunD K d.name d.name (defArgs d.st) (defBody d.st) (defScope d.st) [] [] (He.ga K d.name) fd ∧ FnOk P w K mg base (L2.CX P w) (n + 2) (He.ga K d.name) fd d.ps (spF K (xrOf t.T K) d.ps.length (callF t.P n i)) := by
  have tb := S.tab
  unfold tabB at tb
  simp only [Bool.and_eq_true] at tb
  obtain ⟨⟨⟨⟨⟨⟨⟨b1, b2⟩, b3⟩, b4⟩, b5⟩, b6⟩, b7⟩, b8⟩ := tb
  intro n
  induction n with
  | zero =>
    intro i d hd
    obtain ⟨fd, F⟩ := S.defs d (List.mem_of_getElem? hd)
    refine ⟨fd, F, ⟨fun vs H Q E ⟨as, U, q, _⟩ => q, fun A outer s H args us vs Q E _ _ _ _ ⟨as, U, _, _, _, z⟩ => ?_⟩⟩
    simp only [callF] at z
  | succ n ih =>
    intro i d hd
    obtain ⟨fd, F⟩ := S.defs d (List.mem_of_getElem? hd)
    refine ⟨fd, F, ?_⟩
    have hB := List.all_eq_true.mp O.okB d (List.mem_of_getElem? hd)
    unfold DefI.okB at hB
    simp only [Bool.and_eq_true] at hB
    obtain ⟨⟨⟨⟨o1, o2⟩, o3⟩, o4⟩, o5⟩ := hB
    have o2 := of_decide_eq_true o2
    have o3 := of_decide_eq_true o3
    have hpl : d.ps.length = d.np := by unfold DefI.ps; rw [List.length_take]; omega
    have hfn : ∃ fn, d.fn t.T = some fn ∧ t.P.G[i]? = some fn := by
      have e : (t.defs.map (·.fn t.T))[i]? = some (d.fn t.T) := by rw [List.getElem?_map, hd]; rfl
      rw [O.comp, List.getElem?_map] at e
      cases q : t.P.G[i]? with
      | none => rw [q] at e; cases e
      | some fn => rw [q] at e; exact ⟨fn, (Option.some.inj e).symm, rfl⟩
    obtain ⟨fn, hf1, hf2⟩ := hfn
    unfold DefI.fn at hf1
    cases hc : compSs ⟨t.T, d.N, d.Z, decide (t.T.lam = some d.name)⟩ (defScope d.st) 60 (defBody d.st) with
    | none => rw [hc] at hf1; cases hf1
    | some body =>
      rw [hc] at hf1
      cases hf1
      have fsc := scopeB_ok o1
      refine fn_ok F fsc hf2 hpl.symm rfl (by rw [hpl]; exact o2) (borB_ok o4) fun cdv hcd A outer s H E hr => ?_
      refine compSs_ok (G := ⟨t.T, d.N, d.Z, decide (t.T.lam = some d.name)⟩) (n := n + 2) (sc := defScope d.st) hc ?_
      have tab : TabOk t.T P w K mg base (xrOf t.T K) (t.P.lib (callF t.P n)) (n + 2) := by
        refine ⟨fun x f pats hx => ?_, fun x hx => He.free_ok X G (List.all_eq_true.mp b2 x hx), fun hg => ?_, fun x c hx => ⟨_, clsOk_of X G rfl b4 (lookup_mem' hx)⟩, fun x k hx => ?_, fun hl => ?_, fun x c f hx => ?_, fun x cls dx U H r => ?_, fun x cls dx U H r => ?_, fun x k hx => ?_⟩
        · have hm := lookup_mem' hx
          rw [O.fns] at hm
          unfold tabFns at hm
          obtain ⟨p, hp, he⟩ := List.mem_map.mp hm
          obtain ⟨j, hj⟩ := List.mem_iff_getElem?.mp hp
          rw [List.getElem?_zip_eq_some] at hj
          obtain ⟨hj1, hj2⟩ := hj
          obtain ⟨d2, k⟩ := p
          simp only at hj1 hj2
          have hk : k = j := by
            rw [List.getElem?_range] at hj2
            · exact (Option.some.inj hj2).symm
            · exact (List.getElem?_eq_some_iff.mp hj1).1
          subst hk
          simp only [Prod.mk.injEq] at he
          obtain ⟨rfl, rfl, rfl⟩ := he
          obtain ⟨fd2, F2, ok2⟩ := ih k d2 hj1
          have hB2 := List.all_eq_true.mp O.okB d2 (List.mem_of_getElem? hj1)
          unfold DefI.okB at hB2
          simp only [Bool.and_eq_true] at hB2
          obtain ⟨⟨⟨⟨p1, p2⟩, p3⟩, p4⟩, p5⟩ := hB2
          have p2 := of_decide_eq_true p2
          have p3 := of_decide_eq_true p3
          have hpl2 : d2.ps.length = d2.np := by unfold DefI.ps; rw [List.length_take]; omega
          have hfn2 : ∃ fn, t.P.G[k]? = some fn ∧ fn.bor = d2.bor := by
            have e : (t.defs.map (·.fn t.T))[k]? = some (d2.fn t.T) := by rw [List.getElem?_map, hj1]; rfl
            rw [O.comp, List.getElem?_map] at e
            cases q : t.P.G[k]? with
            | none => rw [q] at e; cases e
            | some fn =>
              rw [q] at e
              have e := Option.some.inj e
              unfold DefI.fn at e
              cases hc2 : compSs ⟨t.T, d2.N, d2.Z, decide (t.T.lam = some d2.name)⟩ (defScope d2.st) 60 (defBody d2.st) with
              | none => rw [hc2] at e; cases e
              | some b => rw [hc2] at e; cases e; exact ⟨_, rfl, rfl⟩
          obtain ⟨fn2, e1, e2⟩ := hfn2
          refine ⟨_, fd2, d2.ps, ok2, ?_, F2.kp, ?_, fun m ks pm hq => ?_⟩
          · refine He.glo_ok X G (List.all_eq_true.mp b1 (d2.name, k, d2.pats) ?_)
            rw [O.fns]; exact hm
          · show (match t.P.G[k]? with | some fn => fn.bor | none => []).length = _
            rw [e1, hpl2]
            show fn2.bor.length = d2.np
            rw [e2]; exact p3
          · have hq2 := List.all_eq_true.mp p5 _ hq
            obtain ⟨q1, q2⟩ := Bool.and_iff hq2
            refine ⟨fun s us ws hu hw => ?_, by rw [hpl2]; exact of_decide_eq_true q1, fun k hk => of_decide_eq_true (List.all_eq_true.mp q2 k hk)⟩
            obtain ⟨oc, od, dV, kV, doc, pmV, an, cdv, ct, osl, rfl, lk, hcd, hD, hK⟩ := F2.ex
            rcases hD with ⟨_, rfl⟩ | ⟨e, _⟩
            · exact .of_eq (O.bd d2 (List.mem_of_getElem? hj1) _ hq kV doc pmV an cdv ct us ws hu hw)
            · exact absurd rfl e
        · rw [hg] at b3
          exact PySem.W.mg_of X G (He.eqO_ok (by simpa using b3))
        · have hb := List.all_eq_true.mp b6 _ (lookup_mem' hx)
          unfold conB at hb
          split at hb
          · rename_i u d h1 h2
            obtain ⟨v, r1, r2⟩ := repB_ok hb
            exact ⟨u, v, d, PySem.W.mg_of X G h1, r1, h2, r2⟩
          · cases hb
        · rw [hl] at b8
          exact PySem.W.mg_of X G (He.eqO_ok (by simpa using b8))
        · rw [O.fld] at hx
          obtain ⟨i, hi, e⟩ := List.mem_map.mp hx
          simp only [Prod.mk.injEq] at e
          obtain ⟨rfl, rfl, rfl⟩ := e
          obtain ⟨hfb, _⟩ := S.flds i hi
          unfold fldB at hfb
          simp only [Bool.and_eq_true] at hfb
          exact ⟨_, He.glo_ok X G hfb.1.1.1.1.1.1.1.1, fld_of O X G S hi, fun d v dx U H fv e2 => ⟨i.cls, O.fin i hi, rfl, by rw [O.fld]; exact List.mem_map.mpr ⟨i, hi, rfl⟩, dx, v, rfl, e2, fv⟩⟩
        · obtain ⟨nm, hm, rfl, hd⟩ := r
          intro f d e
          rw [e] at hd
          obtain ⟨_, dd, v, e1, e2, e3⟩ := hd
          exact ⟨dd, v, e1, e2, e3⟩
        · obtain ⟨nm, hm, rfl, hd⟩ := r
          refine ⟨_, rfl, fun f d e => ?_⟩
          rw [e] at hd
          obtain ⟨hin, _⟩ := hd
          rw [O.fld] at hin
          obtain ⟨i, hi, e2⟩ := List.mem_map.mp hin
          simp only [Prod.mk.injEq] at e2
          obtain ⟨rfl, _, rfl⟩ := e2
          obtain ⟨hfb, _⟩ := S.flds i hi
          unfold fldB at hfb
          simp only [Bool.and_eq_true] at hfb
          exact ⟨xfB_ok hfb.1.1.1.1.1.2, He.eqO_ok hfb.1.1.1.1.1.1.2⟩
        · have hb := List.all_eq_true.mp b7 _ (lookup_mem' hx)
          unfold dicOk at hb
          split at hb
          · rename_i u d h1 h2
            exact ⟨u, d, PySem.W.mg_of X G h1, h2, dicB_ok hb⟩
          · cases hb
      exact {
        N := rfl
        nd := fsc.nd
        scp := rfl
        K := rfl
        calm := rfl
        room := hr
        tk := takes_of rfl rfl rfl rfl
        T := tab
        big := Nat.le_add_left _ _
        lam := fun hl => by
          have hl : decide (t.T.lam = some d.name) = true := hl
          obtain ⟨c, Pa, q1, q2, q3⟩ := LA.at_ d.name (of_decide_eq_true hl)
          refine ⟨c, Pa, ?_, q2, q3⟩
          obtain ⟨oc, od, fd1, osl, lk, rfl⟩ := hcd
          show fd1.code = .ref c
          unfold PySem.W.tabIn at q1
          unfold He.ga at lk
          split at q1
          · rename_i fa hns
            rw [hns] at lk
            simp only at lk
            rw [lk] at q1
            simp only at q1
            split at q1
            · rename_i c1 hc1
              split at q1
              · split at q1
                · cases q1; exact hc1
                · cases q1
              · cases q1
            · cases q1
          · cases q1
        kind := fsc.kind
        tg := fun x h => ⟨h, .inl rfl⟩
        own := passes_of rfl
        stk := rfl
        frm := rfl }
end Pi

set_option Elab.async false
set_option linter.all false
set_option maxRecDepth 100000
set_option maxHeartbeats 4000000
/-! PiU: the head's word, the law's promise. -/
namespace Pi
open PySem PySem.Spec PyProof.Rows L2

abbrev AlP : Type := Bool × List He.FnW
def obsP (t : Text) (K : PySem.W.Frag) : AlP := (tabB t.T t.P.sub t.P.con t.P.dic K && (t.defs.all fun d => d.d.ok K) && (t.flds.all fun i => fldB K i && i.d.ok K), (t.defs.map fun d => He.fnW K d.d.at_) ++ (t.flds.map fun i => He.fnW K i.d.at_))
def valP (t : Text) : AlP := (true, (t.defs.map fun d => d.d.val) ++ (t.flds.map fun i => i.d.val))
/-- the keys of dicts that are references -/
def dkeys (g : Addr → Option Obj) (as : List Addr) : List Addr := as.flatMap fun a => match g a with
  | some o => (match o.data with
    | .dict es _ => es.toList.flatMap fun e => He.refV e.key
    | _ => [])
  | none => []
def asK (g : Addr → Option Obj) (as : List Addr) : List Addr := cStatics :: (as ++ dkeys g as)
/-- an empty table of code objects -/
def isTab : Option Obj → Bool
  | some ⟨.none, none, .fields vs, sl⟩ => decide (vs.size = 0) && decide (sl.size = 0)
  | _ => false
theorem isTab_ok {o : Option Obj} (h : isTab o = true) : o = some { cls := .none, data := .fields #[] } := by
  unfold isTab at h
  split at h
  · rename_i vs sl
    simp only [Bool.and_eq_true, decide_eq_true_eq] at h
    obtain ⟨h1, h2⟩ := h
    rw [Array.eq_empty_of_size_eq_zero h1, Array.eq_empty_of_size_eq_zero h2]
  · cases h
/-- the code object and the table of the def that makes a lambda -/
def lamTabs (t : Text) (K : PySem.W.Frag) : List (Addr × Addr) := match t.T.lam with
  | none => []
  | some x => match PySem.W.tabIn K x with
    | some p => [p]
    | none => []
def lamB (t : Text) (K : PySem.W.Frag) (g : Addr → Option Obj) : Bool := match t.T.lam with
  | none => true
  | some x => match PySem.W.tabIn K x with
    | some (c, P) => PySem.W.codeHdIn K c P && (K.lookup P).isNone && isTab (g P)
    | none => false
def obsPK (t : Text) (K : PySem.W.Frag) (g : Addr → Option Obj) : AlP := ((obsP t K).1 && lamB t K g, (obsP t K).2)
def frK (t : Text) (g : Addr → Option Obj) (as : List Addr) : PySem.W.Frag := match lamTabs t (He.frG g as) with
  | [] => He.frG g as
  | ps => He.frG g (as.filter fun a => !(ps.map (·.2)).contains a)
theorem frK_in {t : Text} {as : List Addr} {h : Heap} : (frK t h.get? as).In h := by
  unfold frK
  split
  · exact He.frG_in
  · exact He.frG_in
def obsPG (m : Nat) (t : Text) (g : Addr → Option Obj) : AlP := obsPK t (frK t g (asK g (He.asD g m))) g
def hookP (m : Nat) (t : Text) : PySem.W.Hook where
  α := AlP
  obs := fun s => obsPG m t s.heap.get?
  val := fun _ => valP t
  says := fun _ h => ∃ K : PySem.W.Frag, K.In h ∧ obsPK t K h.get? = valP t
  of := fun _ _ e => ⟨_, frK_in, e⟩
  keeps := fun _ h h' ⟨K, hK, c⟩ k => ⟨K, PySem.W.Frag.In.keeps hK k, by
    unfold obsPK valP at c ⊢
    obtain ⟨c1, c2⟩ := Prod.mk.inj c
    refine Prod.ext ?_ c2
    obtain ⟨c3, c4⟩ := Bool.and_iff c1
    show ((obsP t K).1 && lamB t K h'.get?) = true
    rw [c3, Bool.true_and]
    unfold lamB at c4 ⊢
    split at c4
    · rfl
    · split at c4
      · rename_i c P e
        simp only [Bool.and_eq_true] at c4 ⊢
        refine ⟨c4.1, ?_⟩
        rw [k _ _ (isTab_ok c4.2)]
        rfl
      · cases c4⟩
theorem obsPG_eq {m : Nat} {t : Text} {g : Addr → Option Obj} {s : Shared} (h : ∀ a, g a = s.heap.get? a) : obsPG m t g = (hookP m t).obs s := by
  have e : g = s.heap.get? := funext h
  subst e
  rfl
theorem said_of {t : Text} {K : PySem.W.Frag} {g : Addr → Option Obj} (h : obsPK t K g = valP t) : t.Said K := by
  have h1 := congrArg Prod.fst h
  have h2 := congrArg Prod.snd h
  obtain ⟨h1, _⟩ := Bool.and_iff h1
  obtain ⟨h1, c⟩ := Bool.and_iff h1
  obtain ⟨a, b⟩ := Bool.and_iff h1
  have h2 : (t.defs.map fun d => He.fnW K d.d.at_) ++ (t.flds.map fun i => He.fnW K i.d.at_) = (t.defs.map fun d => d.d.val) ++ (t.flds.map fun i => i.d.val) := h2
  obtain ⟨h2, h3⟩ := List.append_inj h2 (by simp)
  refine ⟨a, fun d hd => ?_, fun i hi => ?_⟩
  · have e : He.fnW K d.d.at_ = d.d.val := List.map_inj_left.mp h2 d hd
    obtain ⟨fd, F⟩ := He.DefD.funD e (List.all_eq_true.mp b d hd)
    exact ⟨fd, F⟩
  · have e : He.fnW K i.d.at_ = i.d.val := List.map_inj_left.mp h3 i hi
    obtain ⟨c1, c2⟩ := Bool.and_iff (List.all_eq_true.mp c i hi)
    obtain ⟨fd, F⟩ := He.DefD.funD e c2
    exact ⟨c1, fd, F⟩
theorem lam_of {t : Text} {K : PySem.W.Frag} {g : Addr → Option Obj} (h : obsPK t K g = valP t) : ∀ p ∈ lamTabs t K, PySem.W.codeHdIn K p.1 p.2 = true ∧ K.lookup p.2 = none ∧ g p.2 = some { cls := .none, data := .fields #[] } := by
  obtain ⟨_, c⟩ := Bool.and_iff (congrArg Prod.fst h)
  intro p hp
  unfold lamTabs at hp
  unfold lamB at c
  split at c
  · rename_i e
    rw [e] at hp; cases hp
  · rename_i x e
    rw [e] at hp
    simp only at hp
    split at c
    · rename_i c1 P e2
      rw [e2] at hp
      simp only [List.mem_singleton] at hp
      subst hp
      simp only [Bool.and_eq_true] at c
      exact ⟨c.1.1, Option.isNone_iff_eq_none.mp c.1.2, isTab_ok c.2⟩
    · cases c
theorem FnOk.quiet {P : Program} {w : World} {K : PySem.W.Frag} {mg : Str → Option Value} {base : Heap} {k : Nat} {f : Addr} {fd : FuncData} {ps : List Str} {sp : Sp} (F : FnOk P w K mg base (L2.CX P w) k f fd ps sp) :
    FnOk P w K mg base CX0 k f fd ps (fun vs H Q _ => sp vs H Q E0) := by
  refine ⟨fun vs H Q E q => F.len vs H Q _ q, fun A outer s H args us vs Q E hr he hb hv hs => codeAny_mono (F.run A outer s H args us vs Q E0 hr he hb hv hs) fun r s' h => ?_⟩
  cases r with
  | ok fl => cases fl <;> exact h
  | error e =>
    obtain ⟨_, _, _, _, _, _, _, _, _, _, _, _, z⟩ := h
    exact z.elim
/-- the law's call, by the interpreter -/
def lawArg (ns : List Int) : List Sl := [.sh (.lst (ns.map D.int))]
def LawIs (P : Pg) (n i : Nat) (ns : List Int) : Prop := ∃ fr ps, callF P n i (lawArg ns) = .ok (.bl true) fr ps
theorem reps_ns {K : PySem.W.Frag} {U : Addr → Prop} {H : Hp} : ∀ ns : List Int, RepAll K U H (ns.map V.int) (ns.map D.int)
  | [] => .nil
  | i :: r => .cons (.int i) (reps_ns r)
theorem sp_law [HasT] {K : PySem.W.Frag} {XR : XRt} {P : Pg} {n i : Nat} {ns : List Int} {H : Hp} {a : Addr} (hl : LawIs P n i ns) (hT : TabsT H) (hn : noLst K = true) (hS : SqL K H a (ns.map V.int)) (E : XK) :
    spF K XR 1 (callF P n i) [.ref a] H (fun v _ => v = .bl true) E := by
  obtain ⟨fr, ps, e⟩ := hl
  have hR : Rd H a (.lst (ns.map V.int)) := by
    rcases hS with h | ⟨o, its, m, lk, hc, _⟩
    · exact h
    · have hm := lookup_mem' lk
      have := List.all_eq_true.mp hn _ hm
      simp only [hc] at this
      simp at this
  refine ⟨lawArg ns, fun _ => False, rfl, rfl, ⟨⟨rfl, fun j d h => ?_, fun j l d h => ?_, fun j k l l' d d' b h => ?_, fun b h => h.elim, fun _ _ => trivial, hT⟩, fun j h => ?_, fun j l d h => ?_⟩, ?_⟩
  · cases j with
    | zero =>
      have h : some (Sl.sh (.lst (ns.map D.int))) = some (.sh d) := h
      cases h
      exact ⟨_, rfl, .lst hR (fun z => z) (reps_ns ns)⟩
    | succ j => simp [lawArg] at h
  · cases j <;> simp [lawArg] at h
  · cases j <;> simp [lawArg] at h
  · cases j <;> simp [lawArg] at h
  · cases j <;> simp [lawArg] at h
  · rw [e]
    intro v U' H' _ hv
    cases fr with
    | false => cases hv; rfl
    | true =>
      obtain ⟨b, _, _, z, _⟩ := hv
      exact z.elim
/-- the tables with their names -/
def lamT (t : Text) (K : PySem.W.Frag) : HasT := ⟨match t.T.lam with
  | none => []
  | some x => (lamTabs t K).map fun (p : Addr × Addr) => (p.2, (x ++ ".<locals>.") ++ "<lambda>")⟩
theorem law_F {t : Text} (O : t.Ok) {l : PySem.W.OpenLaw} {w : World} {h : Heap} {mg : Str → Option Value} {fa : Addr} {n i : Nat} {d : DefI} (hd : t.defs[i]? = some d) (hdn : d.name = ("law" : Str)) (hps : d.ps = [("script" : Str)])
    (hb : ∀ (kV doc pm : Value) (an : Option Addr) (cdv ct : Value) (us : List Value), us.length = d.ps.length → bindArgs (PySem.W.fnOf d.name d.name (defArgs d.st) (defBody d.st) (defScope d.st) .none kV doc pm an cdv ct) ⟨us, []⟩ = pure (d.ps.zip us))
    (pl : ∀ ns : List Int, ns.length ≤ 63 → LawIs t.P n i ns) (Y : ∃ K : PySem.W.Frag, K.In h ∧ obsPK t K h.get? = valP t) (G : h.Ns mainGlobals mg) (hmg : mg ("law" : Str) = some (.ref fa)) :
    ∃ (K : PySem.W.Frag), K.In h ∧ LamX.LawAtS l w K CX0 (n + 2) 63 "script" mg fa h := by
  obtain ⟨K, KX, c⟩ := Y
  have S := said_of c
  have LT := lam_of c
  have tb := S.tab
  unfold tabB at tb
  simp only [Bool.and_eq_true] at tb
  have hgl : mg d.name = some (.ref (He.ga K d.name)) := by
    refine He.glo_ok KX G (List.all_eq_true.mp tb.1.1.1.1.1.1.1 (d.name, i, d.pats) ?_)
    rw [O.fns]
    unfold tabFns
    refine List.mem_map.mpr ⟨(d, i), ?_, rfl⟩
    refine List.mem_iff_getElem?.mpr ⟨i, ?_⟩
    rw [List.getElem?_zip_eq_some]
    exact ⟨hd, by rw [List.getElem?_range (List.getElem?_eq_some_iff.mp hd).1]⟩
  rw [hdn, hmg] at hgl
  have hfa : fa = He.ga K ("law" : Str) := by cases hgl; rfl
  subst hfa
  letI : HasT := lamT t K
  have LA : ∀ base : Heap, (∀ p ∈ lamTabs t K, LamX.TabB base mg p.1 p.2) → LamAt t K mg base := fun base hB => ⟨fun x hx => by
    cases e : PySem.W.tabIn K x with
    | none =>
      obtain ⟨_, q⟩ := Bool.and_iff (congrArg Prod.fst c)
      unfold lamB at q
      rw [hx] at q
      simp only at q
      rw [e] at q
      cases q
    | some p =>
      have hm : p ∈ lamTabs t K := by
        unfold lamTabs
        rw [hx]
        simp only
        rw [e]
        exact List.mem_cons_self
      refine ⟨p.1, p.2, rfl, hB p hm, ?_⟩
      show (match t.T.lam with | none => [] | some x => (lamTabs t K).map fun (p : Addr × Addr) => (p.2, (x ++ ".<locals>.") ++ "<lambda>")) = _
      unfold lamTabs
      rw [hx]
      simp only
      rw [e]
      rfl⟩
  have fdx : ∃ fd, FunD K d.name d.name (defArgs d.st) (defBody d.st) (defScope d.st) [] [] (He.ga K d.name) fd := S.defs d (List.mem_of_getElem? hd)
  obtain ⟨fd, F⟩ := fdx
  have b := FunD.bindsA (ps := d.ps) F hb
  refine ⟨K, KX, fd, lamTabs t K, fun vs H Q _ => spF K (xrOf t.T K) d.ps.length (callF t.P n i) vs H Q E0, fun p hp => (LT p hp).2.2, fun p hp => (LT p hp).2.1, fun p hp => PySem.W.codeHd_of_K KX (LT p hp).1, fun s u => ?_, fun H a ns hl _ hTb hS => ?_, fun base hKb hN hB => ?_⟩
  · have := b s [u] (by rw [hps]; rfl)
    rw [hps] at this
    exact this
  · show spF K (xrOf t.T K) d.ps.length (callF t.P n i) [.ref a] H _ E0
    rw [hps]
    refine sp_law (pl ns hl) ⟨fun p hp => ?_⟩ tb.1.1.1.2 hS E0
    have hp : p ∈ (match t.T.lam with | none => [] | some x => (lamTabs t K).map fun (p : Addr × Addr) => (p.2, (x ++ ".<locals>.") ++ "<lambda>")) := hp
    split at hp
    · cases hp
    · obtain ⟨q, hq, rfl⟩ := List.mem_map.mp hp
      exact LamX.TabS.nil (hTb q hq)
  · obtain ⟨fd', F', ok'⟩ := all_ok O (P := l.prog) (w := w) (base := base) KX G S (LA base hB) n i d hd
    obtain ⟨oc, od, dV, kV, doc, pm, an, cdv, ct, osl, rfl, lk, _⟩ := F.ex
    obtain ⟨oc', od', dV', kV', doc', pm', an', cdv', ct', osl', rfl, lk', _⟩ := F'.ex
    rw [lk'] at lk
    cases lk
    rw [← hps, ← hdn]
    exact FnOk.quiet ok'
end Pi

set_option Elab.async false
set_option linter.all false
set_option maxRecDepth 100000
set_option maxHeartbeats 4000000
/-! PiV: the interpreter in equations, for the plain laws. -/
namespace Pi
open PySem
theorem callF_of {P : Pg} {n f : Nat} {fn : Fn} {as : List Sl} (h : P.G[f]? = some fn) (h1 : as.length = fn.np) (h2 : borOk as fn.bor = true) :
    callF P (n + 1) f as = outF fn.np (execs (P.lib (callF P n)) fn.body (as ++ List.replicate (fn.nl - fn.np) .no)) := by
  simp only [callF, h]
  rw [if_pos ⟨h1, h2⟩]
@[simp] theorem lib_C (P : Pg) (C : Nat → List Sl → CRes) : (P.lib C).C = C := rfl
@[simp] theorem lib_sub (P : Pg) (C : Nat → List Sl → CRes) (a b : Nat) : (P.lib C).sub a b = (P.sub.getD a []).getD b false := rfl
theorem lib_bor {P : Pg} {f : Nat} {fn : Fn} (h : P.G[f]? = some fn) (C : Nat → List Sl → CRes) : (P.lib C).bor f = fn.bor := by
  show (match P.G[f]? with | some fn => fn.bor | none => []) = _
  rw [h]
@[simp] theorem evalsF_nil {L : Lib} {env : Env} : evalsF L [] env = .ok [] env := rfl
@[simp] theorem evalsF_cons {L : Lib} {e : E} {es : List E} {env : Env} : evalsF L (e :: es) env = (eval L e env).bind fun d env1 => (evalsF L es env1).bind fun ds env2 => .ok (d :: ds) env2 := rfl
@[simp] theorem storeF_nil {env : Env} : storeF [] [] env = some env := rfl
@[simp] theorem storeF_cons {i : Nat} {is : List Nat} {x : D × Bool} {ds : List (D × Bool)} {env : Env} : storeF (i :: is) (x :: ds) env = if i < env.length then storeF is ds (env.set i (if x.2 then .ow true x.1 else .sh x.1)) else none := rfl
section
variable {i j : Int} {d e : D} {xs ys : List D} {b : Bool} {env : Env}
@[simp] theorem opD_add : opD .add (.int i) (.int j) = some (.int (i + j), false) := rfl
@[simp] theorem opD_sub : opD .sub (.int i) (.int j) = some (.int (i - j), false) := rfl
@[simp] theorem opD_mul (h : mulOk i j) : opD .mul (.int i) (.int j) = some (.int (i * j), false) := if_pos h
@[simp] theorem opD_rep (h : 0 ≤ j ∧ j ≤ 1000 ∧ xs.length ≤ 100) : opD .mul (.lst xs) (.int j) = some (.lst (List.replicate j.toNat xs).flatten, true) := if_pos h
@[simp] theorem opD_fdiv (h : divOk j) : opD .fdiv (.int i) (.int j) = some (.int (i / j), false) := if_pos h
@[simp] theorem opD_mod (h : 0 < j) : opD .mod (.int i) (.int j) = some (.int (i % j), false) := if_pos h
@[simp] theorem opD_pow (h : 0 ≤ j ∧ j ≤ 1000 ∧ i.natAbs < 1000000) : opD .pow (.int i) (.int j) = some (.int (i ^ j.toNat), false) := if_pos h
@[simp] theorem opD_tup (h : xs.length + ys.length ≤ 100000) : opD .add (.tup xs) (.tup ys) = some (.tup (xs ++ ys), false) := if_pos h
@[simp] theorem opD_lst (h : xs.length + ys.length ≤ 100000) : opD .add (.lst xs) (.lst ys) = some (.lst (xs ++ ys), true) := if_pos h
@[simp] theorem cmpD_lt : cmpD .lt (.int i) (.int j) = some (decide (i < j)) := rfl
@[simp] theorem cmpD_le : cmpD .le (.int i) (.int j) = some (decide (i ≤ j)) := rfl
@[simp] theorem cmpD_gt : cmpD .gt (.int i) (.int j) = some (decide (j < i)) := rfl
@[simp] theorem cmpD_ge : cmpD .ge (.int i) (.int j) = some (decide (j ≤ i)) := rfl
@[simp] theorem cmpD_eqi : cmpD .eq (.int i) (.int j) = some (decide (i = j)) := by simp [cmpD, D.depth, D.eqb]; rfl
@[simp] theorem cmpD_nei : cmpD .ne (.int i) (.int j) = some (!decide (i = j)) := by simp [cmpD, D.depth, D.eqb]; rfl
@[simp] theorem cmpD_eqb {a b : Bool} : cmpD .eq (.bl a) (.bl b) = some (a == b) := by simp [cmpD, D.depth, D.eqb]
@[simp] theorem cmpD_neb {a b : Bool} : cmpD .ne (.bl a) (.bl b) = some (!(a == b)) := by simp [cmpD, D.depth, D.eqb]
theorem cmpD_eq (h : d.depth ≤ 64) (h2 : e.depth ≤ 64) : cmpD .eq d e = some (d.eqb e) := if_pos ⟨h, h2⟩
theorem cmpD_ne (h : d.depth ≤ 64) (h2 : e.depth ≤ 64) : cmpD .ne d e = some (!d.eqb e) := if_pos ⟨h, h2⟩
@[simp] theorem biD_lenL : biD .len [.lst xs] = some (.int xs.length, false) := rfl
@[simp] theorem biD_lenT : biD .len [.tup xs] = some (.int xs.length, false) := rfl
@[simp] theorem biD_abs : biD .abs [.int i] = some (.int (if i < 0 then -i else i), false) := rfl
@[simp] theorem biD_int : biD .int [.int i] = some (.int i, false) := rfl
@[simp] theorem biD_intB : biD .int [.bl b] = some (.int (if b then 1 else 0), false) := rfl
@[simp] theorem biD_gcd : biD .gcd [.int i, .int j] = some (.int (Nat.gcd i.natAbs j.natAbs : Nat), false) := rfl
@[simp] theorem biD_max : biD .max [.int i, .int j] = some (.int (if i < j then j else i), false) := rfl
@[simp] theorem biD_min : biD .min [.int i, .int j] = some (.int (if j < i then j else i), false) := rfl
@[simp] theorem biD_all : biD .all [.lst xs] = (allBls xs).map fun bs => (.bl (bs.all id), false) := rfl
@[simp] theorem biD_any : biD .any [.lst xs] = (allBls xs).map fun bs => (.bl (bs.any id), false) := rfl
@[simp] theorem biD_sum : biD .sum [.lst xs] = (allInts xs).map fun is => (.int is.sum, false) := rfl
@[simp] theorem biD_listL : biD .list [.lst xs] = some (.lst xs, true) := rfl
@[simp] theorem biD_listT : biD .list [.tup xs] = some (.lst xs, true) := rfl
@[simp] theorem biD_tupleL : biD .tuple [.lst xs] = some (.tup xs, false) := rfl
@[simp] theorem biD_tupleT : biD .tuple [.tup xs] = some (.tup xs, false) := rfl
@[simp] theorem ixD_L : ixD (.lst xs) (.int i) = L2.atI xs i := rfl
@[simp] theorem ixD_T : ixD (.tup xs) (.int i) = L2.atI xs i := rfl
@[simp] theorem truth_bl : D.truth (.bl b) = b := rfl
@[simp] theorem truth_int : D.truth (.int i) = (i != 0) := rfl
@[simp] theorem truth_non : D.truth .non = false := rfl
@[simp] theorem truth_tup : D.truth (.tup xs) = !xs.isEmpty := rfl
@[simp] theorem truth_lst : D.truth (.lst xs) = !xs.isEmpty := rfl
theorem atI_nat' {α : Type} {xs : List α} {i : Int} (k : Nat) (h : i = k) : L2.atI xs i = xs[k]? := by
  subst h
  unfold L2.atI L2.ixN
  rw [if_pos (by omega)]
  by_cases hk : k < xs.length
  · rw [if_pos (by omega)]; simp
  · rw [if_neg (by omega)]
    simp only [Option.bind_none]
    rw [List.getElem?_eq_none (by omega)]
@[simp] theorem atI_0 {α : Type} {xs : List α} : L2.atI xs 0 = xs[0]? := atI_nat' 0 rfl
@[simp] theorem atI_1 {α : Type} {xs : List α} : L2.atI xs 1 = xs[1]? := atI_nat' 1 rfl
@[simp] theorem atI_2 {α : Type} {xs : List α} : L2.atI xs 2 = xs[2]? := atI_nat' 2 rfl
@[simp] theorem atI_n {α : Type} {xs : List α} {k : Nat} : L2.atI xs (k : Int) = xs[k]? := atI_nat' k rfl
@[simp] theorem ixN_0 {n : Nat} (h : 0 < n) : L2.ixN n 0 = some 0 := by
  unfold L2.ixN
  rw [if_pos (by omega), if_pos (by omega)]; rfl
@[simp] theorem ixN_1 {n : Nat} (h : 1 < n) : L2.ixN n 1 = some 1 := by
  unfold L2.ixN
  rw [if_pos (by omega), if_pos (by omega)]; rfl
@[simp] theorem ixN_2 {n : Nat} (h : 2 < n) : L2.ixN n 2 = some 2 := by
  unfold L2.ixN
  rw [if_pos (by omega), if_pos (by omega)]; rfl
@[simp] theorem gives_n0 (ps : List Sl) : gives [] ps env = env := by cases ps <;> simp [gives]
@[simp] theorem gives_nn (t : List (Option (Nat × Bool))) (p : Sl) (ps : List Sl) : gives (none :: t) (p :: ps) env = gives t ps env := by simp [gives]
@[simp] theorem gives_n1 (ps : List Sl) : gives [none] ps env = env := by cases ps <;> simp [gives]
@[simp] theorem gives_n2 (ps : List Sl) : gives [none, none] ps env = env := by
  rcases ps with _ | ⟨p, _ | ⟨q, r⟩⟩ <;> simp [gives]
@[simp] theorem gives_n3 (ps : List Sl) : gives [none, none, none] ps env = env := by
  rcases ps with _ | ⟨p, _ | ⟨q, _ | ⟨w, r⟩⟩⟩ <;> simp [gives]
end
theorem lcLoop_all {f : D → Env → Res (Option D)} {env : Env} {g : D → D} : ∀ {xs acc : List D}, (∀ x ∈ xs, f x env = .ok (some (g x)) env) → acc.length + xs.length ≤ 100000 → lcLoop f xs env acc = .ok (acc ++ xs.map g) env
  | [], acc, _, _ => by simp [lcLoop]
  | x :: xs, acc, h, hl => by
    have h1 := h x List.mem_cons_self
    simp only [List.length_cons] at hl
    have ih := lcLoop_all (xs := xs) (acc := acc ++ [g x]) (fun y hy => h y (List.mem_cons_of_mem _ hy)) (by simp; omega)
    have : acc.length < 100000 := by omega
    simp [lcLoop, h1, this, ih]
theorem allBls_map {α : Type} (f : α → Bool) : ∀ xs : List α, allBls (xs.map fun x => D.bl (f x)) = some (xs.map f)
  | [] => rfl
  | x :: xs => by
    simp only [List.map_cons, allBls, allBls_map f xs]
    rfl
theorem rngOk_of {i : Int} (h0 : 0 ≤ i) (h : i ≤ 1000000) : rngOk i = true := by
  have a : (-(2 ^ 62) : Int) ≤ i := by omega
  have b : i < (2 ^ 62 : Int) := by omega
  simp [rngOk]
  omega
theorem iterD_range {i : Int} (h0 : 0 ≤ i) (h : i ≤ 1000000) : iterD .range [.int i] = some (rangeD 0 i.toNat) := by
  show (if rngOk i = true then some (rangeD 0 i.toNat) else none) = _
  rw [rngOk_of h0 h]; rfl
theorem rangeD_len {lo : Int} {n : Nat} : (rangeD lo n).length = n := by simp [rangeD]
theorem rangeD_mem {lo : Int} {n : Nat} {x : D} (h : x ∈ rangeD lo n) : ∃ k : Nat, k < n ∧ x = .int (lo + k) := by
  obtain ⟨k, hk, rfl⟩ := List.mem_map.mp h
  exact ⟨k, List.mem_range.mp hk, rfl⟩
end Pi

set_option Elab.async false
set_option linter.all false
set_option maxRecDepth 100000
set_option maxHeartbeats 4000000

set_option Elab.async false
set_option linter.all false
set_option maxRecDepth 100000
set_option maxHeartbeats 4000000
/-! PiX: steps by hand. -/
namespace Pi
open PySem
section
variable {L : Lib} {e a b c : E} {env env' : Env} {d : D} {fr : Bool} {f : Bi} {p q : List S} {s : S} {r : List S}
theorem bi_one (hv : ∀ i, e ≠ .var i) (h : eval L e env = .ok (d, fr) env') : eval L (.bi f [e]) env = pureR (biD f [d]) env' := by
  have ha : argOf e (eval L e env) env = .ok (.val d) env' := by
    rw [h]
    cases e <;> first | rfl | exact absurd rfl (hv _)
  simp only [eval, args, ha, Res.bind_ok, peeks, Arg.peek, Option.bind_some, Option.map_some]
theorem ret_of (hv : ∀ i, e ≠ .var i) (h : eval L e env = .ok (d, fr) env') : exec L (.ret e) env = .ok (.rt d fr) env' := by
  cases e <;> first | exact absurd rfl (hv _) | (simp only [exec, h, Res.bind_ok])
theorem and_t (h : eval L a env = .ok (.bl true, fr) env') : eval L (.and a b) env = eval L b env' := by
  simp only [eval, h, Res.bind_ok, truth_bl, if_true]
theorem and_f (h : eval L a env = .ok (.bl false, fr) env') : eval L (.and a b) env = .ok (.bl false, false) env' := by
  simp [eval, h]
theorem ite_of (hv : ∀ i, c ≠ .var i) (h : eval L c env = .ok (d, fr) env') : exec L (.ite c p q) env = if d.truth then execs L p env' else execs L q env' := by
  have ha : argOf c (eval L c env) env = .ok (.val d) env' := by
    rw [h]
    cases c <;> first | rfl | exact absurd rfl (hv _)
  simp only [exec, ha, Res.bind_ok, Arg.peek]
theorem ss_rt (h : exec L s env = .ok (.rt d fr) env') : execs L (s :: r) env = .ok (.rt d fr) env' := by
  simp only [execs, h, Res.bind_ok]
theorem ss_nx (h : exec L s env = .ok .nx env') : execs L (s :: r) env = execs L r env' := by
  simp only [execs, h, Res.bind_ok]
theorem ss_one (h : execs L [s] env = exec L s env) : True := trivial
end
end Pi

set_option Elab.async false
set_option linter.all false
set_option maxRecDepth 100000
set_option maxHeartbeats 4000000
/-! PiY: plain facts that many laws share. -/
namespace Pi

abbrev num (a b : Int) : D := .tup [.int a, .int b]
abbrev gcdI (t b : Int) : Int := (Nat.gcd t.natAbs b.natAbs : Nat)
def isNum : D → Bool
  | .tup [.int a, .int b] => decide (1 ≤ b) && decide (gcdI a b = 1)
  | _ => false
theorem log2_le {n a : Nat} (h : n < 2 ^ a) : n.log2 ≤ a := by
  by_cases h0 : n = 0
  · subst h0; simp
  · exact Nat.le_of_lt ((Nat.log2_lt h0).mpr h)
theorem mulOk_of {i j : Int} (a b : Nat) (h1 : i.natAbs < 2 ^ a) (h2 : j.natAbs < 2 ^ b) (h : a + b < 1000000) : mulOk i j := by
  have := log2_le h1
  have := log2_le h2
  exact .inl (by omega)
theorem mulOk_r {i j : Int} (h : j.natAbs.log2 < 60) : mulOk i j := .inr (.inr h)
theorem divOk_of {j : Int} (a : Nat) (h0 : 0 < j) (h2 : j.natAbs < 2 ^ a) (h : a < 9000) : divOk j := ⟨h0, by have := log2_le h2; omega⟩
abbrev pou (c fl t : Int) : D := .lst [.int c, .int fl, .int t]
def big : Int := 10 ^ 240
/-- a pouch: m turns at most were drawn from it -/
def Pou (m : Int) (d : D) : Prop := ∃ c fl t, d = pou c fl t ∧ 0 ≤ c ∧ c < big ∧ 0 ≤ t ∧ t ≤ m
theorem Pou.le {m m' : Int} {d : D} (h : Pou m d) (k : m ≤ m') : Pou m' d := by
  obtain ⟨c, fl, t, h1, h2, h3, h4, h5⟩ := h
  exact ⟨c, fl, t, h1, h2, h3, h4, by omega⟩
theorem big_lt : big < 2 ^ 900 := by decide +kernel
theorem small_of {i : Int} (a : Nat) (h0 : 0 ≤ i) (h : i < 2 ^ a) : i.natAbs < 2 ^ a := by
  have : ((i.natAbs : Nat) : Int) < ((2 ^ a : Nat) : Int) := by
    rw [Int.natAbs_of_nonneg h0]
    push_cast
    exact h
  exact_mod_cast this
mutual
def D.fine : D → Prop
  | .tup xs => xs.length ≤ 1000 ∧ D.fines xs
  | .lst xs => xs.length ≤ 1000 ∧ D.fines xs
  | _ => True
def D.fines : List D → Prop
  | [] => True
  | x :: xs => D.fine x ∧ D.fines xs
end
theorem fines_mem : ∀ {xs : List D} {x : D}, D.fines xs → x ∈ xs → D.fine x
  | y :: xs, x, h, hx => by
    simp only [D.fines] at h
    rcases List.mem_cons.mp hx with rfl | hx
    · exact h.1
    · exact fines_mem h.2 hx
theorem depths_mem : ∀ {xs : List D} {x : D}, x ∈ xs → x.depth ≤ D.depths xs
  | y :: xs, x, hx => by
    simp only [D.depths]
    rcases List.mem_cons.mp hx with rfl | hx
    · omega
    · have := depths_mem hx
      omega
theorem iter_len (xs : List D) (hz : xs.length ≤ 1000) : iterD .range [.int (xs.length : Int)] = some (rangeD 0 xs.length) := by
  have h1 : (0 : Int) ≤ (xs.length : Int) := Int.natCast_nonneg _
  have h2 : (xs.length : Int) ≤ 1000000 := by omega
  have := iterD_range h1 h2
  rw [Int.toNat_natCast] at this
  exact this
theorem walkB_of {k : ItK} {xs : List Arg} {env : Env} {ds items : List D} (h1 : peeks env xs = some ds) (h2 : iterD k ds = some items) : walkB k xs env = .ok items (shares xs env) := by
  unfold walkB
  simp only [h1, h2]
structure Nm (a b : Int) : Prop where
  pos : 0 < b
  one : gcdI a b = 1
  ta : a.natAbs < 2 ^ 110
  tb : b.natAbs < 2 ^ 110
theorem gcdI_pos {t b : Int} (hb : 0 < b) : 0 < gcdI t b := by
  have : 0 < Nat.gcd t.natAbs b.natAbs := Nat.gcd_pos_of_pos_right _ (by omega)
  show (0 : Int) < (Nat.gcd t.natAbs b.natAbs : Nat)
  omega
theorem gcdI_split {t b : Int} (hb : 0 < b) : ∃ t' b', t = gcdI t b * t' ∧ b = gcdI t b * b' ∧ t / gcdI t b = t' ∧ b / gcdI t b = b' ∧ 0 < b' ∧ gcdI t' b' = 1 := by
  have g0 := gcdI_pos (t := t) hb
  obtain ⟨t', ht⟩ : gcdI t b ∣ t := Int.ofNat_dvd_left.mpr (Nat.gcd_dvd_left _ _)
  obtain ⟨b', hb'⟩ : gcdI t b ∣ b := Int.ofNat_dvd_left.mpr (Nat.gcd_dvd_right _ _)
  refine ⟨t', b', ht, hb', ?_, ?_, ?_, ?_⟩
  · conv => lhs; lhs; rw [ht]
    exact Int.mul_ediv_cancel_left _ (by omega)
  · conv => lhs; lhs; rw [hb']
    exact Int.mul_ediv_cancel_left _ (by omega)
  · rw [hb'] at hb
    exact Int.pos_of_mul_pos_right hb (by omega) |> fun h => h
  · have h1 : t.natAbs = (Nat.gcd t.natAbs b.natAbs) * t'.natAbs := by
      conv => lhs; rw [ht]
      rw [Int.natAbs_mul, Int.natAbs_natCast]
    have h2 : b.natAbs = (Nat.gcd t.natAbs b.natAbs) * b'.natAbs := by
      conv => lhs; rw [hb']
      rw [Int.natAbs_mul, Int.natAbs_natCast]
    have h4 : 0 < Nat.gcd t.natAbs b.natAbs := Nat.gcd_pos_of_pos_right _ (by omega)
    generalize hg : Nat.gcd t.natAbs b.natAbs = g at h1 h2 h4
    have h3 : g = g * Nat.gcd t'.natAbs b'.natAbs := by
      rw [← Nat.gcd_mul_left, ← h1, ← h2, hg]
    have h5 : Nat.gcd t'.natAbs b'.natAbs = 1 := by
      have : g * 1 = g * Nat.gcd t'.natAbs b'.natAbs := by omega
      exact (Nat.eq_of_mul_eq_mul_left h4 this).symm
    show ((Nat.gcd t'.natAbs b'.natAbs : Nat) : Int) = 1
    rw [h5]; rfl
theorem natAbs_ediv_le (t g : Int) (hg : 0 < g) (h : ∃ t', t = g * t') : (t / g).natAbs ≤ t.natAbs := by
  obtain ⟨t', rfl⟩ := h
  rw [Int.mul_ediv_cancel_left _ (by omega), Int.natAbs_mul]
  exact Nat.le_mul_of_pos_left _ (by omega)
theorem low_nm {t b : Int} (hb : 0 < b) (h1 : t.natAbs < 2 ^ 110) (h2 : b.natAbs < 2 ^ 110) : Nm (t / gcdI t b) (b / gcdI t b) := by
  obtain ⟨t', b', e1, e2, e3, e4, e5, e6⟩ := gcdI_split (t := t) hb
  have g0 := gcdI_pos (t := t) hb
  refine ⟨by rw [e4]; exact e5, by rw [e3, e4]; exact e6, Nat.lt_of_le_of_lt (natAbs_ediv_le _ _ g0 ⟨t', e1⟩) h1, Nat.lt_of_le_of_lt (natAbs_ediv_le _ _ g0 ⟨b', e2⟩) h2⟩
theorem div_eq_self {t g : Int} (hg : 0 < g) (h0 : 0 < t) (h : t / g = t) : g = 1 := by
  by_cases h1 : g = 1
  · exact h1
  · have e := Int.emod_add_mul_ediv t g
    have r0 : 0 ≤ t % g := Int.emod_nonneg _ (by omega)
    have m : 2 * t ≤ g * t := Int.mul_le_mul_of_nonneg_right (by omega) (by omega)
    rw [h] at e
    omega
theorem low_eq {a b : Int} (hb : 0 < b) : (num (a / gcdI a b) (b / gcdI a b)).eqb (num a b) = decide (gcdI a b = 1) := by
  by_cases h : gcdI a b = 1
  · simp [h, D.eqb, D.eqbs]
  · have : b / gcdI a b ≠ b := fun z => h (div_eq_self (gcdI_pos hb) hb z)
    simp [h, D.eqb, D.eqbs, this]
theorem isNum_of {a b : Int} (h : Nm a b) : isNum (num a b) = true := by
  have hp := h.pos
  have h1 := h.one
  have : 1 ≤ b := by omega
  simp [isNum, this, h1]
theorem mulNm {a d : Int} (h1 : a.natAbs < 2 ^ 110) (h2 : d.natAbs < 2 ^ 110) : mulOk a d := mulOk_of 110 110 h1 h2 (by decide)
theorem abs_mul_lt {a d : Int} {j k : Nat} (h1 : a.natAbs < 2 ^ j) (h2 : d.natAbs < 2 ^ k) : (a * d).natAbs < 2 ^ (j + k) := by
  rw [Int.natAbs_mul, Nat.pow_add]
  exact Nat.mul_lt_mul'' h1 h2
theorem gcd_scale {k x y : Int} (hk : 0 < k) : gcdI (k * x) (k * y) = k * gcdI x y := by
  show ((Nat.gcd (k * x).natAbs (k * y).natAbs : Nat) : Int) = k * ((Nat.gcd x.natAbs y.natAbs : Nat) : Int)
  rw [Int.natAbs_mul, Int.natAbs_mul, Nat.gcd_mul_left]
  have : ((k.natAbs : Nat) : Int) = k := Int.natAbs_of_nonneg (by omega)
  push_cast
  rw [Int.natAbs_of_nonneg (show 0 ≤ k by omega)]
theorem low_scale {k x y : Int} (hk : 0 < k) (hy : 0 < y) : (k * x) / gcdI (k * x) (k * y) = x / gcdI x y ∧ (k * y) / gcdI (k * x) (k * y) = y / gcdI x y := by
  rw [gcd_scale hk]
  exact ⟨Int.mul_ediv_mul_of_pos _ _ hk, Int.mul_ediv_mul_of_pos _ _ hk⟩
theorem gcdI_le {x y : Int} (hy : 0 < y) : gcdI x y ≤ y := by
  have : Nat.gcd x.natAbs y.natAbs ≤ y.natAbs := Nat.gcd_le_right _ (by omega)
  show ((Nat.gcd x.natAbs y.natAbs : Nat) : Int) ≤ y
  omega
theorem divOk_gcd {x y : Int} (k : Nat) (hy : 0 < y) (h : y.natAbs < 2 ^ k) (hk : k < 9000) : divOk (gcdI x y) := by
  have h1 := gcdI_le (x := x) hy
  have h2 := gcdI_pos (t := x) hy
  exact divOk_of k h2 (Nat.lt_of_le_of_lt (by omega) h) hk
theorem quo_lt {x y : Int} (k : Nat) (hy : 0 < y) (hx : x.natAbs < 2 ^ k) (h : y.natAbs < 2 ^ k) : (x / gcdI x y).natAbs < 2 ^ k ∧ (y / gcdI x y).natAbs < 2 ^ k ∧ 0 < y / gcdI x y := by
  obtain ⟨p, q, e1, e2, e3, e4, e5, e6⟩ := gcdI_split (t := x) hy
  have g0 := gcdI_pos (t := x) hy
  exact ⟨Nat.lt_of_le_of_lt (natAbs_ediv_le _ _ g0 ⟨p, e1⟩) hx, Nat.lt_of_le_of_lt (natAbs_ediv_le _ _ g0 ⟨q, e2⟩) h, by rw [e4]; exact e5⟩
theorem foLoop_inv {f : D → Env → Res Fl} {I : Nat → Env → Prop} : ∀ (items : List D) (k : Nat) (env : Env), I k env → (∀ x ∈ items, ∀ j env, j < k + items.length → I j env → ∃ env', f x env = .ok .nx env' ∧ I (j + 1) env') → ∃ env', foLoop f items env = .ok .nx env' ∧ I (k + items.length) env'
  | [], k, env, h, _ => ⟨env, by simp [foLoop], h⟩
  | x :: xs, k, env, h, H => by
    obtain ⟨e1, h1, h2⟩ := H x List.mem_cons_self k env (by simp) h
    obtain ⟨e2, h3, h4⟩ := foLoop_inv xs (k + 1) e1 h2 fun y hy j env hj hI => H y (List.mem_cons_of_mem _ hy) j env (by simp at hj ⊢; omega) hI
    refine ⟨e2, ?_, by rw [List.length_cons, Nat.add_comm xs.length 1, ← Nat.add_assoc]; exact h4⟩
    simp only [foLoop, h1, Res.bind_ok]
    exact h3
theorem range_of (L : Lib) (i : Int) (k : Nat) (hi : i = k) (hk : k ≤ 1000) (env : Env) : ((args L [.con (.int i)] env).bind (walkB .range)) = .ok (rangeD 0 k) env := by
  subst hi
  have h : args L [.con (.int k)] env = .ok [.val (.int k)] env := rfl
  rw [h, Res.bind_ok]
  have := iterD_range (i := (k : Int)) (by omega) (by omega)
  rw [Int.toNat_natCast] at this
  exact walkB_of (ds := [.int k]) rfl this
/-! ### ends well -/
@[irreducible] def Ok {α : Type} (r : Res α) (Q : α → Env → Prop) : Prop := match r with
  | .ok a e => Q a e
  | _ => False
def OkC (c : CRes) (Q : D → Bool → List Sl → Prop) : Prop := match c with
  | .ok d fr ps => Q d fr ps
  | _ => False
@[simp] theorem Ok_ok {α : Type} {a : α} {e : Env} {Q : α → Env → Prop} : Ok (.ok a e) Q = Q a e := by unfold Ok; rfl
theorem Ok_exF {α : Type} {x : Exc} {e : Env} {Q : α → Env → Prop} : Ok (.ex x e) Q = False := by unfold Ok; rfl
theorem Ok_badF {α : Type} {Q : α → Env → Prop} : Ok .bad Q = False := by unfold Ok; rfl
@[simp] theorem Ok_bind {α β : Type} {r : Res α} {f : α → Env → Res β} {Q : β → Env → Prop} : Ok (r.bind f) Q = Ok r fun a e => Ok (f a e) Q := by
  cases r with
  | ok a e => rw [Ok_ok]; rfl
  | ex x e => rw [Ok_exF]; exact Ok_exF
  | bad => rw [Ok_badF]; exact Ok_badF
theorem Ok.mono {α : Type} {r : Res α} {Q Q' : α → Env → Prop} (h : Ok r Q) (k : ∀ a e, Q a e → Q' a e) : Ok r Q' := by
  cases r with
  | ok a e => rw [Ok_ok] at h ⊢; exact k a e h
  | ex x e => rw [Ok_exF] at h; exact h.elim
  | bad => rw [Ok_badF] at h; exact h.elim
theorem Ok.of {α : Type} {r : Res α} {a : α} {e : Env} {Q : α → Env → Prop} (h : r = .ok a e) (q : Q a e) : Ok r Q := by rw [h, Ok_ok]; exact q
theorem Ok.ex {α : Type} {r : Res α} {Q : α → Env → Prop} (h : Ok r Q) : ∃ a e, r = .ok a e ∧ Q a e := by
  cases r with
  | ok a e => rw [Ok_ok] at h; exact ⟨a, e, rfl, h⟩
  | ex x e => rw [Ok_exF] at h; exact h.elim
  | bad => rw [Ok_badF] at h; exact h.elim
theorem Ok_cons {L : Lib} {s : S} {ss : List S} {env : Env} {Q : Fl → Env → Prop} (h : Ok (exec L s env) fun f e => f = .nx ∧ Ok (execs L ss e) Q) : Ok (execs L (s :: ss) env) Q := by
  simp only [execs, Ok_bind]
  refine h.mono fun f e ⟨hf, k⟩ => ?_
  subst hf
  exact k
theorem Ok_nil {L : Lib} {env : Env} {Q : Fl → Env → Prop} (h : Q .nx env) : Ok (execs L [] env) Q := by
  simp only [execs, Ok_ok]; exact h
/-- a loop over items by an invariant -/
theorem Ok_loop {f : D → Env → Res Fl} (I : Nat → Env → Prop) {items : List D} {env : Env} (h0 : I 0 env) (hs : ∀ j (hj : j < items.length) env, I j env → Ok (f items[j] env) fun fl e => (fl = .nx ∨ fl = .ct) ∧ I (j + 1) e) :
    Ok (foLoop f items env) fun fl e => fl = .nx ∧ I items.length e := by
  have key : ∀ (xs : List D) (k : Nat) (env : Env), I k env → (∀ j (hj : j < xs.length) env, I (k + j) env → Ok (f xs[j] env) fun fl e => (fl = .nx ∨ fl = .ct) ∧ I (k + j + 1) e) → Ok (foLoop f xs env) fun fl e => fl = .nx ∧ I (k + xs.length) e := by
    intro xs
    induction xs with
    | nil => intro k env h _; simp only [foLoop, Ok_ok]; exact ⟨trivial, h⟩
    | cons x xs ih =>
      intro k env h H
      simp only [foLoop, Ok_bind]
      refine (H 0 (by simp) env h).mono fun fl e ⟨hf, hI⟩ => ?_
      have := ih (k + 1) e hI fun j hj env hj2 => by
        have := H (j + 1) (by simp; omega) env (by rw [show k + (j + 1) = k + 1 + j by omega]; exact hj2)
        simpa [show k + (j + 1) + 1 = k + 1 + j + 1 by omega] using this
      rcases hf with rfl | rfl
      · simpa [show k + (xs.length + 1) = k + 1 + xs.length by omega] using this
      · simpa [show k + (xs.length + 1) = k + 1 + xs.length by omega] using this
  have := key items 0 env h0 fun j hj env h => by
    have := hs j hj env (by simpa using h)
    simpa using this
  simpa using this
theorem Ok_for {L : Lib} {tg : Tg} {k : ItK} {es : List E} {b : List S} {env env1 : Env} {items : List D} {Q : Fl → Env → Prop} (hi : (args L es env).bind (walkB k) = .ok items env1)
    (h : Ok (foLoop (fun d e => match tg.store d false e with | none => .bad | some e1 => execs L b e1) items env1) Q) : Ok (exec L (.fo tg k es b) env) Q := by
  simp only [exec, hi, Res.bind_ok]
  exact h
end Pi

set_option Elab.async false
set_option linter.all false
set_option maxRecDepth 100000
set_option maxHeartbeats 4000000
/-! PiZ: plain facts that many laws share: comprehensions, numbers in sequence. -/
namespace Pi
theorem lcLoop_fm {f : D → Env → Res (Option D)} {env : Env} {h : D → Option D} : ∀ {xs acc : List D}, (∀ x ∈ xs, f x env = .ok (h x) env) → acc.length + xs.length ≤ 100000 → lcLoop f xs env acc = .ok (acc ++ xs.filterMap h) env
  | [], acc, _, _ => by simp [lcLoop]
  | x :: xs, acc, H, hl => by
    have h1 := H x List.mem_cons_self
    simp only [List.length_cons] at hl
    cases hx : h x with
    | none =>
      have ih := lcLoop_fm (xs := xs) (acc := acc) (fun y hy => H y (List.mem_cons_of_mem _ hy)) (by omega)
      simp [lcLoop, h1, hx, ih]
    | some d =>
      have ih := lcLoop_fm (xs := xs) (acc := acc ++ [d]) (fun y hy => H y (List.mem_cons_of_mem _ hy)) (by simp; omega)
      have : acc.length < 100000 := by omega
      simp [lcLoop, h1, hx, this, ih]
section
variable {L : Lib} {elt : E} {own : List Nat} {tg : Tg} {k : ItK} {es conds : List E} {env env1 env2 : Env} {items ds : List D}
theorem lc_of (hi : (args L es env).bind (walkB k) = .ok items env1)
    (hl : lcLoop (fun d e => match tg.store d false e with
            | none => .bad
            | some e1 => (holds L conds e1).bind fun b e2 => if b then (eval L elt e2).bind fun r e3 => .ok (some r.1) (wipeE e3 own) else .ok none (wipeE e2 own)) items (wipeE env1 own) [] = .ok ds env2) :
    eval L (.lc elt own tg k es conds) env = .ok (.lst ds, true) (backE env1 env2 own) := by
  rw [eval, hi, Res.bind_ok]
  exact congrArg (fun r => match r with | .ok ds env2 => Res.ok (D.lst ds, true) (backE env1 env2 own) | _ => Res.bad) hl
/-- a comprehension without conditions -/
theorem lc_map (g : D → D) (hi : (args L es env).bind (walkB k) = .ok items env1) (hz : items.length ≤ 100000)
    (h : ∀ x ∈ items, ∃ e1 e2 fr, tg.store x false (wipeE env1 own) = some e1 ∧ eval L elt e1 = .ok (g x, fr) e2 ∧ wipeE e2 own = wipeE env1 own) :
    eval L (.lc elt own tg k es []) env = .ok (.lst (items.map g), true) (backE env1 (wipeE env1 own) own) := by
  refine lc_of hi ?_
  rw [lcLoop_all (g := g) (fun x hx => ?_) (by simpa using hz)]
  · simp
  · obtain ⟨e1, e2, fr, h1, h2, h3⟩ := h x hx
    simp [h1, holds, h2, h3]
end
theorem walk_seq {L : Lib} {e : E} {env env1 : Env} {xs : List D} {fr : Bool} (hv : ∀ i, e ≠ .var i) (h : eval L e env = .ok (.tup xs, fr) env1 ∨ eval L e env = .ok (.lst xs, fr) env1) : (args L [e] env).bind (walkB .seq) = .ok xs env1 := by
  have ha : ∀ d, eval L e env = .ok (d, fr) env1 → args L [e] env = .ok [.val d] env1 := fun d hd => by
    have : argOf e (eval L e env) env = .ok (.val d) env1 := by
      rw [hd]
      cases e <;> first | rfl | exact absurd rfl (hv _)
    simp only [args, this, Res.bind_ok]
  rcases h with h | h
  · rw [ha _ h]; rfl
  · rw [ha _ h]; rfl
/-! ### slices -/
theorem cutL_to {α : Type} {xs : List α} {k : Nat} (h : k ≤ xs.length) : cutL xs none (some (k : Int)) = xs.take k := by
  unfold cutL
  rw [HT.sIx_none, HT.sIx_nat, Nat.min_eq_left h]
  simp
theorem cutL_from {α : Type} {xs : List α} {k : Nat} (h : k ≤ xs.length) : cutL xs (some (k : Int)) none = xs.drop k := by
  unfold cutL
  rw [HT.sIx_none, HT.sIx_nat, Nat.min_eq_left h]
  exact List.take_of_length_le (by simp)
/-! ### numbers as pairs -/
abbrev Nu := Int × Int
abbrev nD (p : Nu) : D := num p.1 p.2
abbrev NmP (p : Nu) : Prop := Nm p.1 p.2
def lt2 (p q : Nu) : Bool := decide (p.1 * q.2 < q.1 * p.2)
theorem nD_eqb (p q : Nu) : (nD p).eqb (nD q) = decide (p = q) := by
  obtain ⟨a, b⟩ := p
  obtain ⟨c, d⟩ := q
  simp only [nD, num, D.eqb, D.eqbs, Bool.and_true, Prod.mk.injEq, Bool.decide_and]
  congr 1
theorem nD_any (p : Nu) (l : List Nu) : ((l.map nD).any fun y => y.eqb (nD p)) = decide (p ∈ l) := by
  induction l with
  | nil => simp
  | cons q l ih =>
    rw [List.map_cons, List.any_cons, ih, nD_eqb]
    by_cases h : p = q
    · subst h; simp
    · have h' : ¬ q = p := fun e => h e.symm
      simp [h, h']
theorem nD_depth (p : Nu) : (nD p).depth = 1 := by simp [D.depth, D.depths]
theorem nD_depths : ∀ l : List Nu, D.depths (l.map nD) ≤ 1
  | [] => by simp [D.depths]
  | p :: l => by
    have := nD_depths l
    simp only [List.map_cons, D.depths]
    rw [nD_depth]; omega
def ins (p : Nu) (l : List Nu) : List Nu := if p ∈ l then l else l.take (l.filter (lt2 · p)).length ++ [p] ++ l.drop (l.filter (lt2 · p)).length
def srt (l : List Nu) : List Nu := l.foldl (fun f p => ins p f) []
theorem ins_len (p : Nu) (l : List Nu) : (ins p l).length ≤ l.length + 1 := by
  unfold ins
  split
  · omega
  · simp
    omega
theorem ins_mem {p q : Nu} {l : List Nu} : q ∈ ins p l ↔ q = p ∨ q ∈ l := by
  unfold ins
  split
  · rename_i h
    constructor
    · exact .inr
    · rintro (rfl | h2)
      · exact h
      · exact h2
  · rw [List.mem_append, List.mem_append, List.mem_singleton]
    have e := List.take_append_drop (l.filter (lt2 · p)).length l
    constructor
    · rintro ((h | h) | h)
      · exact .inr (List.mem_of_mem_take h)
      · exact .inl h
      · exact .inr (List.mem_of_mem_drop h)
    · rintro (h | h)
      · exact .inl (.inr h)
      · rw [← e] at h
        rcases List.mem_append.mp h with h | h
        · exact .inl (.inl h)
        · exact .inr h
theorem fold_len : ∀ (l acc : List Nu), (l.foldl (fun f p => ins p f) acc).length ≤ acc.length + l.length
  | [], acc => by simp
  | p :: l, acc => by
    have h1 := fold_len l (ins p acc)
    have h2 := ins_len p acc
    simp only [List.foldl_cons, List.length_cons]
    omega
theorem fold_mem : ∀ (l acc : List Nu) (q : Nu), q ∈ l.foldl (fun f p => ins p f) acc ↔ q ∈ acc ∨ q ∈ l
  | [], acc, q => by simp
  | p :: l, acc, q => by
    simp only [List.foldl_cons, fold_mem l (ins p acc) q, ins_mem, List.mem_cons]
    constructor
    · rintro ((h | h) | h)
      · exact .inr (.inl h)
      · exact .inl h
      · exact .inr (.inr h)
    · rintro (h | h | h)
      · exact .inl (.inr h)
      · exact .inl (.inl h)
      · exact .inr h
theorem srt_len (l : List Nu) : (srt l).length ≤ l.length := by
  have := fold_len l []
  simp only [List.length_nil, Nat.zero_add] at this
  exact this
theorem srt_mem {l : List Nu} {q : Nu} : q ∈ srt l ↔ q ∈ l := by
  unfold srt
  rw [fold_mem l [] q]
  simp
theorem srt_snoc (l : List Nu) (p : Nu) : srt (l ++ [p]) = ins p (srt l) := by
  unfold srt
  rw [List.foldl_append]; rfl
def pickD (c : Nu → Bool) : D → Option D
  | .tup [.int a, .int b] => if c (a, b) then some (.tup [.int a, .int b]) else none
  | _ => none
theorem pickD_nD (c : Nu → Bool) (p : Nu) : pickD c (nD p) = if c p then some (nD p) else none := rfl
theorem filt_nD (c : Nu → Bool) : ∀ l : List Nu, (l.filter c).map nD = (l.map nD).filterMap (pickD c)
  | [] => rfl
  | p :: l => by
    rw [List.map_cons, List.filterMap_cons, List.filter_cons, pickD_nD]
    by_cases h : c p = true
    · simp only [h, if_true, List.map_cons, filt_nD c l]
    · simp only [h, Bool.false_eq_true, if_false, filt_nD c l]
theorem take_succ_map (l : List Nu) {j : Nat} (hj : j < l.length) : l.take (j + 1) = l.take j ++ [l[j]] := by
  rw [List.take_succ, List.getElem?_eq_getElem hj]; rfl
end Pi

set_option Elab.async false
set_option linter.all false
set_option maxRecDepth 100000
set_option maxHeartbeats 4000000
/-! PiW: plain facts about formulas; comprehensions that change slots. -/
namespace Pi
open PySem
/-- a comprehension whose parts draw -/
theorem Ok_lc {f : D → Env → Res (Option D)} (I : Nat → List D → Env → Prop) {items : List D} {env : Env} (hz : items.length ≤ 100000) (h0 : I 0 [] env)
    (hs : ∀ j (hj : j < items.length) acc env, acc.length = j → I j acc env → Ok (f items[j] env) fun o e => ∃ d, o = some d ∧ I (j + 1) (acc ++ [d]) e) : Ok (lcLoop f items env []) fun ds e => ds.length = items.length ∧ I items.length ds e := by
  have key : ∀ (xs : List D) (acc : List D) (env : Env), acc.length + xs.length ≤ 100000 → I acc.length acc env → (∀ j (hj : j < xs.length) acc' env, acc'.length = acc.length + j → I (acc.length + j) acc' env → Ok (f xs[j] env) fun o e => ∃ d, o = some d ∧ I (acc.length + j + 1) (acc' ++ [d]) e) →
      Ok (lcLoop f xs env acc) fun ds e => ds.length = acc.length + xs.length ∧ I (acc.length + xs.length) ds e := by
    intro xs
    induction xs with
    | nil => intro acc env hz h _; simp only [lcLoop, Ok_ok]; exact ⟨rfl, h⟩
    | cons x xs ih =>
      intro acc env hz h H
      simp only [List.length_cons] at hz
      simp only [lcLoop, Ok_bind]
      refine (H 0 (by simp) acc env rfl h).mono fun o e ⟨d, ho, hI⟩ => ?_
      subst ho
      simp only [if_pos (show acc.length < 100000 by omega)]
      have hl : (acc ++ [d]).length = acc.length + 1 := by simp
      have := ih (acc ++ [d]) e (by omega) (by rw [hl]; exact hI) fun j hj acc' env hl' hI' => by
        rw [hl] at hl' hI' ⊢
        have := H (j + 1) (by simp; omega) acc' env (by omega) (by rw [show acc.length + (j + 1) = acc.length + 1 + j by omega]; exact hI')
        simpa [show acc.length + (j + 1) + 1 = acc.length + 1 + j + 1 by omega] using this
      rw [hl] at this
      simpa [show acc.length + (xs.length + 1) = acc.length + 1 + xs.length by omega] using this
  have := key items [] env (by simpa using hz) h0 fun j hj acc env hl h => by
    simp only [List.length_nil, Nat.zero_add] at hl h ⊢
    exact hs j hj acc env hl h
  simpa using this
section
variable {L : Lib} {e : E} {env env' : Env} {d : D} {fr : Bool} {f : Nat}
theorem call_one (hv : ∀ i, e ≠ .var i) (h : eval L e env = .ok (d, fr) env') : eval L (.call f [e] [0]) env = doCall L f [.val d] [0] env' := by
  have ha : argOf e (eval L e env) env = .ok (.val d) env' := by
    rw [h]
    cases e <;> first | rfl | exact absurd rfl (hv _)
  simp only [eval, args, ha, Res.bind_ok]
end
section
variable {L : Lib} {c e : E} {p rest : List S} {env env' : Env} {d : D} {fr fr' : Bool}
theorem ite_ret (hv : ∀ i, c ≠ .var i) (hc : eval L c env = .ok (.bl true, fr) env) (hv2 : ∀ i, e ≠ .var i) (he : eval L e env = .ok (d, fr') env') : execs L (.ite c [.ret e] [] :: rest) env = .ok (.rt d fr') env' := by
  refine ss_rt ?_
  rw [ite_of hv hc]
  simp only [truth_bl, if_true]
  exact ss_rt (ret_of hv2 he)
theorem ite_go (hv : ∀ i, c ≠ .var i) (hc : eval L c env = .ok (.bl true, fr) env) : execs L (.ite c p [] :: rest) env = (execs L p env).bind fun f env1 => match f with | .nx => execs L rest env1 | f => .ok f env1 := by
  rw [execs, ite_of hv hc]
  rfl
theorem ite_no (hv : ∀ i, c ≠ .var i) (hc : eval L c env = .ok (.bl false, fr) env') : execs L (.ite c p [] :: rest) env = execs L rest env' := by
  rw [execs, ite_of hv hc]
  rfl
theorem bin_of {o : Bop} {a b : E} {env1 env2 : Env} {x y : D} {r : D × Bool} {f1 f2 : Bool} (ha : ∀ i, a ≠ .var i) (hb : ∀ i, b ≠ .var i) (h1 : eval L a env = .ok (x, f1) env1) (h2 : eval L b env1 = .ok (y, f2) env2) (h : opD o x y = some r) : eval L (.bin o a b) env = .ok r env2 := by
  have e1 : argOf a (eval L a env) env = .ok (.val x) env1 := by
    rw [h1]
    cases a <;> first | rfl | exact absurd rfl (ha _)
  have e2 : argOf b (eval L b env1) env1 = .ok (.val y) env2 := by
    rw [h2]
    cases b <;> first | rfl | exact absurd rfl (hb _)
  simp only [eval, e1, e2, Res.bind_ok, Arg.peek, Option.bind_some, h, pureR_some]
theorem or_of {a b : E} {x y : Bool} {fr1 fr2 : Bool} (ha : eval L a env = .ok (.bl x, false) env) (hb : eval L b env = .ok (.bl y, false) env) : eval L (.or a b) env = .ok (.bl (x || y), false) env := by
  cases x <;> simp [eval, ha, hb]
end
theorem eqb_str {w : D} {s : PySem.Str} : w.eqb (.str s) = true ↔ w = .str s := by
  cases w <;> simp [D.eqb]
theorem iter_int {r : Int} (h0 : 0 ≤ r) (h : r ≤ 1000000) : iterD .range [.int r] = some (rangeD 0 r.toNat) := iterD_range h0 h

/-- a turn of a loop -/
def turnOf (L : Lib) (tg : Tg) (b : List S) : D → Env → Res Fl := fun d e => match tg.store d false e with
  | none => .bad
  | some e1 => execs L b e1
theorem Ok_turn {L : Lib} {i : Nat} {x : D} {b : List S} {env : Env} {Q : Fl → Env → Prop} (hi : i < env.length) (h : Ok (execs L b (env.set i (.sh x))) Q) : Ok (turnOf L (.name i) b x env) Q := by
  have : (Tg.name i).store x false env = some (env.set i (.sh x)) := by simp only [Tg.store, if_pos hi]; rfl
  unfold turnOf
  rw [this]
  exact h
theorem Ok_turnT {L : Lib} {tg : Tg} {x : D} {b : List S} {env e1 : Env} {Q : Fl → Env → Prop} (hs : tg.store x false env = some e1) (h : Ok (execs L b e1) Q) : Ok (turnOf L tg b x env) Q := by
  unfold turnOf
  rw [hs]
  exact h
theorem Ok_fo {L : Lib} {tg : Tg} {k : ItK} {es : List E} {b : List S} {env env1 : Env} {items : List D} {Q : Fl → Env → Prop} (hi : (args L es env).bind (walkB k) = .ok items env1)
    (h : Ok (foLoop (turnOf L tg b) items env1) Q) : Ok (exec L (.fo tg k es b) env) Q := Ok_for hi h
/-! ### formulas -/
@[simp] theorem w_yes_less : (("yes" : Str) = ("less" : Str)) = False := eq_false (by decide)
@[simp] theorem w_yes_same : (("yes" : Str) = ("same" : Str)) = False := eq_false (by decide)
@[simp] theorem w_yes_both : (("yes" : Str) = ("both" : Str)) = False := eq_false (by decide)
@[simp] theorem w_yes_either : (("yes" : Str) = ("either" : Str)) = False := eq_false (by decide)
@[simp] theorem w_yes_not : (("yes" : Str) = ("not" : Str)) = False := eq_false (by decide)
@[simp] theorem w_yes_some : (("yes" : Str) = ("some" : Str)) = False := eq_false (by decide)
@[simp] theorem w_yes_all : (("yes" : Str) = ("all" : Str)) = False := eq_false (by decide)
@[simp] theorem w_less_yes : (("less" : Str) = ("yes" : Str)) = False := eq_false (by decide)
@[simp] theorem w_less_same : (("less" : Str) = ("same" : Str)) = False := eq_false (by decide)
@[simp] theorem w_less_both : (("less" : Str) = ("both" : Str)) = False := eq_false (by decide)
@[simp] theorem w_less_either : (("less" : Str) = ("either" : Str)) = False := eq_false (by decide)
@[simp] theorem w_less_not : (("less" : Str) = ("not" : Str)) = False := eq_false (by decide)
@[simp] theorem w_less_some : (("less" : Str) = ("some" : Str)) = False := eq_false (by decide)
@[simp] theorem w_less_all : (("less" : Str) = ("all" : Str)) = False := eq_false (by decide)
@[simp] theorem w_same_yes : (("same" : Str) = ("yes" : Str)) = False := eq_false (by decide)
@[simp] theorem w_same_less : (("same" : Str) = ("less" : Str)) = False := eq_false (by decide)
@[simp] theorem w_same_both : (("same" : Str) = ("both" : Str)) = False := eq_false (by decide)
@[simp] theorem w_same_either : (("same" : Str) = ("either" : Str)) = False := eq_false (by decide)
@[simp] theorem w_same_not : (("same" : Str) = ("not" : Str)) = False := eq_false (by decide)
@[simp] theorem w_same_some : (("same" : Str) = ("some" : Str)) = False := eq_false (by decide)
@[simp] theorem w_same_all : (("same" : Str) = ("all" : Str)) = False := eq_false (by decide)
@[simp] theorem w_both_yes : (("both" : Str) = ("yes" : Str)) = False := eq_false (by decide)
@[simp] theorem w_both_less : (("both" : Str) = ("less" : Str)) = False := eq_false (by decide)
@[simp] theorem w_both_same : (("both" : Str) = ("same" : Str)) = False := eq_false (by decide)
@[simp] theorem w_both_either : (("both" : Str) = ("either" : Str)) = False := eq_false (by decide)
@[simp] theorem w_both_not : (("both" : Str) = ("not" : Str)) = False := eq_false (by decide)
@[simp] theorem w_both_some : (("both" : Str) = ("some" : Str)) = False := eq_false (by decide)
@[simp] theorem w_both_all : (("both" : Str) = ("all" : Str)) = False := eq_false (by decide)
@[simp] theorem w_either_yes : (("either" : Str) = ("yes" : Str)) = False := eq_false (by decide)
@[simp] theorem w_either_less : (("either" : Str) = ("less" : Str)) = False := eq_false (by decide)
@[simp] theorem w_either_same : (("either" : Str) = ("same" : Str)) = False := eq_false (by decide)
@[simp] theorem w_either_both : (("either" : Str) = ("both" : Str)) = False := eq_false (by decide)
@[simp] theorem w_either_not : (("either" : Str) = ("not" : Str)) = False := eq_false (by decide)
@[simp] theorem w_either_some : (("either" : Str) = ("some" : Str)) = False := eq_false (by decide)
@[simp] theorem w_either_all : (("either" : Str) = ("all" : Str)) = False := eq_false (by decide)
@[simp] theorem w_not_yes : (("not" : Str) = ("yes" : Str)) = False := eq_false (by decide)
@[simp] theorem w_not_less : (("not" : Str) = ("less" : Str)) = False := eq_false (by decide)
@[simp] theorem w_not_same : (("not" : Str) = ("same" : Str)) = False := eq_false (by decide)
@[simp] theorem w_not_both : (("not" : Str) = ("both" : Str)) = False := eq_false (by decide)
@[simp] theorem w_not_either : (("not" : Str) = ("either" : Str)) = False := eq_false (by decide)
@[simp] theorem w_not_some : (("not" : Str) = ("some" : Str)) = False := eq_false (by decide)
@[simp] theorem w_not_all : (("not" : Str) = ("all" : Str)) = False := eq_false (by decide)
@[simp] theorem w_some_yes : (("some" : Str) = ("yes" : Str)) = False := eq_false (by decide)
@[simp] theorem w_some_less : (("some" : Str) = ("less" : Str)) = False := eq_false (by decide)
@[simp] theorem w_some_same : (("some" : Str) = ("same" : Str)) = False := eq_false (by decide)
@[simp] theorem w_some_both : (("some" : Str) = ("both" : Str)) = False := eq_false (by decide)
@[simp] theorem w_some_either : (("some" : Str) = ("either" : Str)) = False := eq_false (by decide)
@[simp] theorem w_some_not : (("some" : Str) = ("not" : Str)) = False := eq_false (by decide)
@[simp] theorem w_some_all : (("some" : Str) = ("all" : Str)) = False := eq_false (by decide)
@[simp] theorem w_all_yes : (("all" : Str) = ("yes" : Str)) = False := eq_false (by decide)
@[simp] theorem w_all_less : (("all" : Str) = ("less" : Str)) = False := eq_false (by decide)
@[simp] theorem w_all_same : (("all" : Str) = ("same" : Str)) = False := eq_false (by decide)
@[simp] theorem w_all_both : (("all" : Str) = ("both" : Str)) = False := eq_false (by decide)
@[simp] theorem w_all_either : (("all" : Str) = ("either" : Str)) = False := eq_false (by decide)
@[simp] theorem w_all_not : (("all" : Str) = ("not" : Str)) = False := eq_false (by decide)
@[simp] theorem w_all_some : (("all" : Str) = ("some" : Str)) = False := eq_false (by decide)
def isTm (n : Int) : D → Bool
  | .int i => decide (0 ≤ i) && decide (i < n)
  | d => isNum d
/-- a drawn term -/
def Trm (n : Int) (d : D) : Prop := (∃ i, d = .int i ∧ 0 ≤ i ∧ i < n) ∨ ∃ q, d = nD q ∧ NmP q
theorem Trm.is {n : Int} {d : D} (h : Trm n d) : isTm n d = true := by
  rcases h with ⟨i, rfl, h1, h2⟩ | ⟨q, rfl, h⟩
  · simp [isTm, h1, h2]
  · exact isNum_of h
theorem Trm.up {n : Int} {d : D} (h : Trm n d) : Trm (n + 1) d := by
  rcases h with ⟨i, rfl, h1, h2⟩ | ⟨q, rfl, h⟩
  · exact .inl ⟨i, rfl, h1, by omega⟩
  · exact .inr ⟨q, rfl, h⟩
theorem Trm.depth {n : Int} {d : D} (h : Trm n d) : d.depth ≤ 1 := by
  rcases h with ⟨i, rfl, h1, h2⟩ | ⟨q, rfl, h⟩
  · simp [D.depth]
  · rw [nD_depth]; omega
inductive Fm : Int → D → Prop
  | yes (n : Int) : Fm n (.tup [.str "yes"])
  | cmp (n : Int) (w : Str) (a b : D) : (w = "less" ∨ w = "same") → Trm n a → Trm n b → Fm n (.tup [.str w, a, b])
  | not (n : Int) (x : D) : Fm n x → Fm n (.tup [.str "not", x])
  | qu (n : Int) (w : Str) (x : D) : (w = "some" ∨ w = "all") → Fm (n + 1) x → Fm n (.tup [.str w, x])
  | lst (n : Int) (w : Str) (ys : List D) : (w = "both" ∨ w = "either") → ys ≠ [] → ys.length ≤ 100 → (∀ y ∈ ys, Fm n y) → Fm n (.tup [.str w, .tup ys])
theorem Fm.up {n : Int} {d : D} (h : Fm n d) : Fm (n + 1) d := by
  induction h with
  | yes n => exact .yes _
  | cmp n w a b hw ha hb => exact .cmp _ _ _ _ hw ha.up hb.up
  | not n x h ih => exact .not _ _ ih
  | qu n w x hw h ih => exact .qu _ _ _ hw ih
  | lst n w ys hw h0 hz h ih => exact .lst _ _ _ hw h0 hz ih
def isF : Nat → Int → D → Bool
  | 0, _, _ => false
  | k + 1, n, d => match d with
    | .tup [.str w] => decide (w = "yes")
    | .tup [.str w, x] =>
      if w = "both" ∨ w = "either" then (match x with | .tup (y :: ys) => (y :: ys).all (isF k n) | _ => false)
      else if w = "not" then isF k n x
      else if w = "some" ∨ w = "all" then isF k (n + 1) x
      else false
    | .tup [.str w, a, b] => decide (w = "less" ∨ w = "same") && isTm n a && isTm n b
    | _ => false
theorem depth_tup (xs : List D) : (D.tup xs).depth = D.depths xs + 1 := by simp [D.depth]
theorem depths_cons (x : D) (xs : List D) : D.depths (x :: xs) = max x.depth (D.depths xs) := by simp [D.depths]
theorem isF_1 {k : Nat} {n : Int} {w : Str} : isF (k + 1) n (.tup [.str w]) = decide (w = "yes") := rfl
theorem isF_2 {k : Nat} {n : Int} {w : Str} {x : D} : isF (k + 1) n (.tup [.str w, x]) = if w = "both" ∨ w = "either" then (match x with | .tup (y :: ys) => (y :: ys).all (isF k n) | _ => false)
      else if w = "not" then isF k n x
      else if w = "some" ∨ w = "all" then isF k (n + 1) x
      else false := rfl
theorem isF_3 {k : Nat} {n : Int} {w : Str} {a b : D} : isF (k + 1) n (.tup [.str w, a, b]) = (decide (w = "less" ∨ w = "same") && isTm n a && isTm n b) := rfl
theorem Fm.isF {n : Int} {d : D} (h : Fm n d) : ∀ k, d.depth ≤ k → isF (k + 1) n d = true := by
  induction h with
  | yes n => intro k _; rw [isF_1]; simp
  | cmp n w a b hw ha hb => intro k _; rw [isF_3]; simp [hw, ha.is, hb.is]
  | not n x h ih =>
    intro k hk
    rw [depth_tup, depths_cons, depths_cons] at hk
    obtain ⟨j, rfl⟩ : ∃ j, k = j + 1 := ⟨k - 1, by omega⟩
    have := ih j (by omega)
    rw [isF_2]
    simpa using this
  | qu n w x hw h ih =>
    intro k hk
    rw [depth_tup, depths_cons, depths_cons] at hk
    obtain ⟨j, rfl⟩ : ∃ j, k = j + 1 := ⟨k - 1, by omega⟩
    have := ih j (by omega)
    rcases hw with rfl | rfl <;> rw [isF_2] <;> simpa using this
  | lst n w ys hw h0 hz h ih =>
    intro k hk
    rw [depth_tup, depths_cons, depths_cons, depth_tup] at hk
    obtain ⟨j, rfl⟩ : ∃ j, k = j + 1 := ⟨k - 1, by omega⟩
    cases ys with
    | nil => exact absurd rfl h0
    | cons y ys =>
      have a1 : ∀ x ∈ y :: ys, Pi.isF (j + 1) n x = true := fun x hx => ih x hx j (by have := depths_mem hx; omega)
      have a2 : (y :: ys).all (Pi.isF (j + 1) n) = true := List.all_eq_true.mpr a1
      rw [isF_2, if_pos hw]; exact a2
theorem Fm.tup {n : Int} {d : D} (h : Fm n d) : ∃ w r, d = .tup (.str w :: r) := by
  cases h <;> exact ⟨_, _, rfl⟩
theorem atI_last {α : Type} {xs : List α} {x : α} : L2.atI (xs ++ [x]) (-1) = some x := by
  unfold L2.atI L2.ixN
  have h1 : (1 : Int) ≤ (xs.length : Int) + 1 := by omega
  have h2 : (-1 + ((xs.length : Int) + 1)).toNat = xs.length := by omega
  simp [h1, h2]
/-- how many draws a formula of so many tuples may take -/
def dB : Nat → Int
  | 0 => 0
  | k + 1 => 5 + 3 * dB k
theorem dB_nn : ∀ k, 0 ≤ dB k
  | 0 => by simp [dB]
  | k + 1 => by have := dB_nn k; simp only [dB]; omega
theorem dB_le : ∀ {j k : Nat}, j ≤ k → dB j ≤ dB k
  | j, 0, h => by have : j = 0 := by omega
                  subst this; omega
  | j, k + 1, h => by
    by_cases e : j = k + 1
    · subst e; omega
    · have := dB_le (show j ≤ k by omega)
      have := dB_nn k
      simp only [dB]; omega
mutual
/-- the ints in it are small -/
def D.sm : D → Prop
  | .int i => i.natAbs < 2 ^ 200
  | .tup xs => D.sms xs
  | .lst xs => D.sms xs
  | _ => True
def D.sms : List D → Prop
  | [] => True
  | x :: xs => D.sm x ∧ D.sms xs
end
theorem sms_mem : ∀ {xs : List D} {x : D}, D.sms xs → x ∈ xs → D.sm x
  | y :: xs, x, h, hx => by
    simp only [D.sms] at h
    rcases List.mem_cons.mp hx with rfl | hx
    · exact h.1
    · exact sms_mem h.2 hx
theorem sms_of : ∀ {xs : List D}, (∀ x ∈ xs, D.sm x) → D.sms xs
  | [], _ => by simp [D.sms]
  | y :: xs, h => by
    simp only [D.sms]
    exact ⟨h y List.mem_cons_self, sms_of fun x hx => h x (List.mem_cons_of_mem _ hx)⟩
theorem fines_of : ∀ {xs : List D}, (∀ x ∈ xs, D.fine x) → D.fines xs
  | [], _ => by simp [D.fines]
  | y :: xs, h => by
    simp only [D.fines]
    exact ⟨h y List.mem_cons_self, fines_of fun x hx => h x (List.mem_cons_of_mem _ hx)⟩
theorem depths_of {k : Nat} : ∀ {xs : List D}, (∀ x ∈ xs, x.depth ≤ k) → D.depths xs ≤ k
  | [], _ => by simp [D.depths]
  | y :: xs, h => by
    simp only [D.depths]
    have h1 := h y List.mem_cons_self
    have h2 := depths_of (k := k) fun x hx => h x (List.mem_cons_of_mem y hx)
    omega
theorem Trm.sm {n : Int} {d : D} (h : Trm n d) (hn : n ≤ 1000) : D.sm d ∧ D.fine d := by
  rcases h with ⟨i, rfl, h1, h2⟩ | ⟨q, rfl, h⟩
  · simp only [D.sm, D.fine, and_true]; omega
  · have h1 := h.ta
    have h2 := h.tb
    have e : (2 : Nat) ^ 110 ≤ 2 ^ 200 := Nat.pow_le_pow_right (by decide) (by decide)
    simp only [nD, num, D.sm, D.sms, D.fine, D.fines, and_true]
    exact ⟨⟨Nat.lt_of_lt_of_le h1 e, Nat.lt_of_lt_of_le h2 e⟩, by simp⟩
theorem Fm.sm {n : Int} {d : D} (h : Fm n d) : n + d.depth ≤ 900 → D.sm d ∧ D.fine d := by
  induction h with
  | yes n => intro _; simp [D.sm, D.sms, D.fine, D.fines]
  | cmp n w a b hw ha hb =>
    intro h
    have h1 := ha.sm (by omega)
    have h2 := hb.sm (by omega)
    simp [D.sm, D.sms, D.fine, D.fines, h1, h2]
  | not n x h ih =>
    intro hk
    rw [depth_tup, depths_cons, depths_cons] at hk
    have := ih (by omega)
    simp [D.sm, D.sms, D.fine, D.fines, this]
  | qu n w x hw h ih =>
    intro hk
    rw [depth_tup, depths_cons, depths_cons] at hk
    have := ih (by omega)
    simp [D.sm, D.sms, D.fine, D.fines, this]
  | lst n w ys hw h0 hz h ih =>
    intro hk
    rw [depth_tup, depths_cons, depths_cons, depth_tup] at hk
    have a1 : D.sms ys := sms_of fun y hy => (ih y hy (by have := depths_mem hy; omega)).1
    have a2 : D.fines ys := fines_of fun y hy => (ih y hy (by have := depths_mem hy; omega)).2
    simp only [D.sm, D.sms, D.fine, D.fines, a1, a2, and_true, true_and]
    simp
    omega
/-- a source: m turns at most were drawn from it -/
def Src (m : Int) (d : D) : Prop := ∃ c e t, d = pou c e t ∧ 0 ≤ c ∧ c < big ∧ 0 ≤ e ∧ e < 2 ^ 60 ∧ 0 ≤ t ∧ t ≤ m
theorem Src.le {m m' : Int} {d : D} (h : Src m d) (k : m ≤ m') : Src m' d := by
  obtain ⟨c, e, t, h1, h2, h3, h4, h5, h6, h7⟩ := h
  exact ⟨c, e, t, h1, h2, h3, h4, h5, h6, by omega⟩
end Pi

set_option Elab.async false
set_option linter.all false
set_option maxRecDepth 100000
set_option maxHeartbeats 4000000
/-! PiMa: numbers in sequence. -/
namespace Pi
/-- a number: its bottom from 1 on, no common divisor -/
structure Nz (p : Nu) : Prop where
  pos : 0 < p.2
  one : gcdI p.1 p.2 = 1
theorem lt2_iff {p q : Nu} : lt2 p q = true ↔ p.1 * q.2 < q.1 * p.2 := by simp [lt2]
theorem nz_eq {p q : Nu} (hp : Nz p) (hq : Nz q) (h : p.1 * q.2 = q.1 * p.2) : p = q := by
  obtain ⟨a, b⟩ := p
  obtain ⟨c, d⟩ := q
  have hb : 0 < b := hp.pos
  have hd : 0 < d := hq.pos
  have h : a * d = c * b := h
  have g1 : Nat.Coprime a.natAbs b.natAbs := by
    have : ((Nat.gcd a.natAbs b.natAbs : Nat) : Int) = 1 := hp.one
    show Nat.gcd _ _ = 1
    omega
  have g2 : Nat.Coprime c.natAbs d.natAbs := by
    have : ((Nat.gcd c.natAbs d.natAbs : Nat) : Int) = 1 := hq.one
    show Nat.gcd _ _ = 1
    omega
  have e : a.natAbs * d.natAbs = c.natAbs * b.natAbs := by
    rw [← Int.natAbs_mul, ← Int.natAbs_mul, h]
  have d1 : b.natAbs ∣ d.natAbs := g1.symm.dvd_of_dvd_mul_left (m := a.natAbs) ⟨c.natAbs, by rw [e, Nat.mul_comm]⟩
  have d2 : d.natAbs ∣ b.natAbs := g2.symm.dvd_of_dvd_mul_left (m := c.natAbs) ⟨a.natAbs, by rw [← e, Nat.mul_comm]⟩
  have e2 := Nat.dvd_antisymm d1 d2
  have e3 : b = d := by omega
  subst e3
  have e4 : a = c := Int.eq_of_mul_eq_mul_right (by omega) h
  rw [e4]
theorem lt2_irrefl {p : Nu} : lt2 p p = false := by simp [lt2]
theorem lt2_trans {p q r : Nu} (hp : 0 < p.2) (hq : 0 < q.2) (hr : 0 < r.2) (h1 : lt2 p q = true) (h2 : lt2 q r = true) : lt2 p r = true := by
  rw [lt2_iff] at *
  have a1 : p.1 * q.2 * r.2 < q.1 * p.2 * r.2 := Int.mul_lt_mul_of_pos_right h1 hr
  have a2 : q.1 * r.2 * p.2 < r.1 * q.2 * p.2 := Int.mul_lt_mul_of_pos_right h2 hp
  have e1 : q.1 * p.2 * r.2 = q.1 * r.2 * p.2 := by rw [Int.mul_assoc, Int.mul_comm p.2, ← Int.mul_assoc]
  have a3 : p.1 * q.2 * r.2 < r.1 * q.2 * p.2 := by omega
  have e2 : p.1 * q.2 * r.2 = (p.1 * r.2) * q.2 := by rw [Int.mul_assoc, Int.mul_comm q.2, ← Int.mul_assoc]
  have e3 : r.1 * q.2 * p.2 = (r.1 * p.2) * q.2 := by rw [Int.mul_assoc, Int.mul_comm q.2, ← Int.mul_assoc]
  rw [e2, e3] at a3
  exact Int.lt_of_mul_lt_mul_right a3 (Int.le_of_lt hq)
theorem lt2_asymm {p q : Nu} (h : lt2 p q = true) : lt2 q p = false := by
  rw [lt2_iff] at h
  simp only [lt2, decide_eq_false_iff_not]
  omega
theorem lt2_total {p q : Nu} (hp : Nz p) (hq : Nz q) (h : p ≠ q) : lt2 p q = true ∨ lt2 q p = true := by
  rw [lt2_iff, lt2_iff]
  by_cases h1 : p.1 * q.2 = q.1 * p.2
  · exact absurd (nz_eq hp hq h1) h
  · omega
/-- in sequence, each less than all behind it -/
structure Std (l : List Nu) : Prop where
  nz : ∀ q ∈ l, Nz q
  pw : l.Pairwise fun p q => lt2 p q = true
theorem Std.nil : Std [] := ⟨by simp, .nil⟩
theorem Std.tail {p : Nu} {l : List Nu} (h : Std (p :: l)) : Std l := ⟨fun q hq => h.nz q (List.mem_cons_of_mem _ hq), (List.pairwise_cons.mp h.pw).2⟩
theorem Std.nodup {l : List Nu} (h : Std l) : l.Nodup := h.pw.imp fun {p q} hpq e => by subst e; rw [lt2_irrefl] at hpq; cases hpq
/-- one list for each lot of numbers -/
theorem Std.eq {l m : List Nu} (hl : Std l) (hm : Std m) (h : ∀ q, q ∈ l ↔ q ∈ m) : l = m :=
  List.Perm.eq_of_pairwise (le := fun p q => lt2 p q = true) (fun a b _ _ h1 h2 => by rw [lt2_asymm h1] at h2; cases h2) hl.pw hm.pw ((List.perm_ext_iff_of_nodup hl.nodup hm.nodup).mpr h)
/-- the lesser ones stand first -/
theorem Std.filter {p : Nu} (hp : Nz p) : ∀ {l : List Nu}, Std l → l.filter (lt2 · p) = l.take (l.filter (lt2 · p)).length ∧ ∀ q ∈ l.drop (l.filter (lt2 · p)).length, lt2 q p = false
  | [], _ => by simp
  | a :: l, h => by
    have ih := Std.filter hp h.tail
    by_cases ha : lt2 a p = true
    · rw [List.filter_cons_of_pos (by simpa using ha), List.length_cons, List.take_succ_cons, List.drop_succ_cons]
      exact ⟨by rw [← ih.1], ih.2⟩
    · have : l.filter (lt2 · p) = [] := by
        rw [List.filter_eq_nil_iff]
        intro q hq hqp
        have haq := (List.pairwise_cons.mp h.pw).1 q hq
        exact ha (lt2_trans (h.nz a List.mem_cons_self).pos (h.nz q (List.mem_cons_of_mem _ hq)).pos hp.pos haq hqp)
      rw [List.filter_cons_of_neg (by simpa using ha), this]
      refine ⟨rfl, fun q hq => ?_⟩
      rcases List.mem_cons.mp hq with rfl | hq
      · simpa using ha
      · cases hqp : lt2 q p with
        | false => rfl
        | true =>
          have : q ∈ l.filter (lt2 · p) := List.mem_filter.mpr ⟨hq, hqp⟩
          rw [‹l.filter (lt2 · p) = []›] at this
          cases this
theorem ins_std {p : Nu} {l : List Nu} (hp : Nz p) (h : Std l) : Std (ins p l) := by
  by_cases hm : p ∈ l
  · unfold ins; rw [if_pos hm]; exact h
  refine ⟨fun q hq => ?_, ?_⟩
  · rcases ins_mem.mp hq with rfl | hq
    · exact hp
    · exact h.nz q hq
  · unfold ins
    rw [if_neg hm]
    obtain ⟨f1, f2⟩ := Std.filter hp h
    generalize hk : (l.filter (lt2 · p)).length = k at *
    have e := List.take_append_drop k l
    have ht : ∀ q ∈ l.take k, lt2 q p = true := fun q hq => by
      rw [← f1] at hq
      exact (List.mem_filter.mp hq).2
    have hd : ∀ q ∈ l.drop k, lt2 p q = true := fun q hq => by
      have hql : q ∈ l := List.mem_of_mem_drop hq
      rcases lt2_total hp (h.nz q hql) (fun z => hm (z ▸ hql)) with z | z
      · exact z
      · rw [f2 q hq] at z; cases z
    have pw := h.pw
    rw [← e] at pw
    obtain ⟨p1, p2, p3⟩ := List.pairwise_append.mp pw
    rw [List.append_assoc]
    refine List.pairwise_append.mpr ⟨p1, List.pairwise_cons.mpr ⟨hd, p2⟩, fun a ha b hb => ?_⟩
    rcases List.mem_cons.mp hb with rfl | hb
    · exact ht a ha
    · exact p3 a ha b hb
theorem fold_std : ∀ (l acc : List Nu), (∀ q ∈ l, Nz q) → Std acc → Std (l.foldl (fun f p => ins p f) acc)
  | [], acc, _, h => h
  | p :: l, acc, hl, h => fold_std l (ins p acc) (fun q hq => hl q (List.mem_cons_of_mem _ hq)) (ins_std (hl p List.mem_cons_self) h)
theorem srt_std {l : List Nu} (h : ∀ q ∈ l, Nz q) : Std (srt l) := fold_std l [] h Std.nil
theorem srt_congr {a b : List Nu} (ha : ∀ q ∈ a, Nz q) (h : ∀ q, q ∈ a ↔ q ∈ b) : srt a = srt b :=
  (srt_std ha).eq (srt_std fun q hq => ha q ((h q).mpr hq)) fun q => by rw [srt_mem, srt_mem, h]
theorem srt_id {l : List Nu} (h : Std l) : srt l = l := (srt_std h.nz).eq h fun q => srt_mem
/-- sorted by whole keys -/
def keyI (m : Int) (p : Nu) : Int := p.1 * (m / p.2)
theorem key_le {m : Int} {p q : Nu} (hm : 0 < m) (hp : 0 < p.2) (hq : 0 < q.2) (dp : p.2 ∣ m) (dq : q.2 ∣ m) : keyI m p ≤ keyI m q ↔ p.1 * q.2 ≤ q.1 * p.2 := by
  obtain ⟨a, b⟩ := p
  obtain ⟨c, d⟩ := q
  simp only [keyI] at *
  obtain ⟨u, rfl⟩ := dp
  obtain ⟨v, hv⟩ := dq
  have hu : 0 < u := Int.pos_of_mul_pos_right hm (by omega)
  rw [Int.mul_ediv_cancel_left _ (by omega)]
  have e : b * u / d = v := by rw [hv]; exact Int.mul_ediv_cancel_left _ (by omega)
  rw [e]
  have hbu : 0 < b * u := hm
  have hd : 0 < b * d := Int.mul_pos hp hq
  have e1 : a * u * (b * d) = a * d * (b * u) := by
    rw [Int.mul_assoc, Int.mul_assoc]; congr 1
    rw [← Int.mul_assoc, Int.mul_comm u b, Int.mul_comm (b * u) d]
  have e2 : c * v * (b * d) = c * b * (b * u) := by
    rw [Int.mul_assoc, Int.mul_assoc]; congr 1
    rw [hv, Int.mul_comm v, Int.mul_assoc]
  constructor
  · intro h
    have := Int.mul_le_mul_of_nonneg_right h (Int.le_of_lt hd)
    rw [e1, e2] at this
    exact Int.le_of_mul_le_mul_right this hbu
  · intro h
    have := Int.mul_le_mul_of_nonneg_right h (Int.le_of_lt hbu)
    rw [← e1, ← e2] at this
    exact Int.le_of_mul_le_mul_right this hd
def uqN : List Nu → List Nu → List Nu
  | acc, [] => acc
  | acc, d :: r => uqN (if d ∈ acc then acc else acc ++ [d]) r
theorem uqN_mem : ∀ (l acc : List Nu) (q : Nu), q ∈ uqN acc l ↔ q ∈ acc ∨ q ∈ l
  | [], acc, q => by simp [uqN]
  | d :: l, acc, q => by
    rw [uqN, uqN_mem l]
    by_cases h : d ∈ acc
    · rw [if_pos h, List.mem_cons]
      constructor
      · rintro (h1 | h1)
        · exact .inl h1
        · exact .inr (.inr h1)
      · rintro (h1 | rfl | h1)
        · exact .inl h1
        · exact .inl h
        · exact .inr h1
    · rw [if_neg h, List.mem_append, List.mem_singleton, List.mem_cons, or_assoc]
theorem uqN_nodup : ∀ (l acc : List Nu), acc.Nodup → (uqN acc l).Nodup
  | [], acc, h => h
  | d :: l, acc, h => by
    rw [uqN]
    refine uqN_nodup l _ ?_
    by_cases hd : d ∈ acc
    · rw [if_pos hd]; exact h
    · rw [if_neg hd, List.nodup_append]
      refine ⟨h, by simp, fun a ha b hb e => ?_⟩
      rw [List.mem_singleton] at hb
      subst hb e
      exact hd ha
theorem uqN_len : ∀ (l acc : List Nu), (uqN acc l).length ≤ acc.length + l.length
  | [], acc => by simp [uqN]
  | d :: l, acc => by
    rw [uqN]
    have := uqN_len l (if d ∈ acc then acc else acc ++ [d])
    rw [List.length_cons]
    have h2 : (if d ∈ acc then acc else acc ++ [d]).length ≤ acc.length + 1 := by split <;> simp
    omega
def sortI (m : Int) (l : List Nu) : List Nu := l.mergeSort fun x y => decide (keyI m x ≤ keyI m y)
theorem sortI_eq {m : Int} {l : List Nu} (hm : 0 < m) (hl : ∀ q ∈ l, Nz q) (hd : ∀ q ∈ l, q.2 ∣ m) (hn : l.Nodup) : sortI m l = srt l := by
  have pm : (sortI m l).Perm l := List.mergeSort_perm _ _
  have me : ∀ q, q ∈ sortI m l ↔ q ∈ l := fun q => List.mem_mergeSort
  refine Std.eq ⟨fun q hq => hl q ((me q).mp hq), ?_⟩ (srt_std hl) fun q => by rw [me, srt_mem]
  have pw := List.pairwise_mergeSort (le := fun x y => decide (keyI m x ≤ keyI m y)) (fun a b c h1 h2 => by simp only [decide_eq_true_eq] at *; omega) (fun a b => by simp only [Bool.or_eq_true, decide_eq_true_eq]; omega) l
  have nd : (sortI m l).Nodup := pm.symm.nodup hn
  refine (List.pairwise_and_iff.mpr ⟨pw, nd⟩ |>.imp_of_mem ?_)
  intro a b ha hb ⟨h1, h2⟩
  have ha' := (me a).mp ha
  have hb' := (me b).mp hb
  have h1 : keyI m a ≤ keyI m b := by simpa using h1
  have h3 := (key_le hm (hl a ha').pos (hl b hb').pos (hd a ha') (hd b hb')).mp h1
  rcases lt2_total (hl a ha') (hl b hb') h2 with z | z
  · exact z
  · rw [lt2_iff] at z; omega
end Pi

set_option Elab.async false
set_option linter.all false
set_option maxRecDepth 100000
set_option maxHeartbeats 4000000
/-! PiMb: numbers between numbers. -/
namespace Pi
def lowN (t b : Int) : Nu := (t / gcdI t b, b / gcdI t b)
/-- both parts are less than a power of two -/
structure Sz (k : Nat) (p : Nu) : Prop where
  ta : p.1.natAbs < 2 ^ k
  tb : p.2.natAbs < 2 ^ k
theorem Sz.le {j k : Nat} {p : Nu} (h : Sz j p) (l : j ≤ k) : Sz k p := ⟨Nat.lt_of_lt_of_le h.ta (Nat.pow_le_pow_right (by decide) l), Nat.lt_of_lt_of_le h.tb (Nat.pow_le_pow_right (by decide) l)⟩
theorem lowN_nz {t b : Int} (hb : 0 < b) : Nz (lowN t b) := by
  obtain ⟨t', b', e1, e2, e3, e4, e5, e6⟩ := gcdI_split (t := t) hb
  exact ⟨by show 0 < b / gcdI t b; rw [e4]; exact e5, by show gcdI (t / gcdI t b) (b / gcdI t b) = 1; rw [e3, e4]; exact e6⟩
theorem lowN_sz {t b : Int} {k : Nat} (hb : 0 < b) (h1 : t.natAbs < 2 ^ k) (h2 : b.natAbs < 2 ^ k) : Sz k (lowN t b) := by
  obtain ⟨a1, a2, _⟩ := quo_lt k hb h1 h2
  exact ⟨a1, a2⟩
theorem lowN_scale {k x y : Int} (hk : 0 < k) (hy : 0 < y) : lowN (k * x) (k * y) = lowN x y := by
  obtain ⟨a1, a2⟩ := low_scale (x := x) hk hy
  simp only [lowN, a1, a2]
theorem lowN_id {p : Nu} (h : Nz p) : lowN p.1 p.2 = p := by
  have := h.one
  simp only [lowN, this, Int.ediv_one]
/-- a fraction times, by whole numbers, is the same as of its lowest terms -/
theorem lowN_low {t b m : Int} (hb : 0 < b) (hm : 0 < m) : lowN ((lowN t b).1) ((lowN t b).2 * m) = lowN t (b * m) := by
  obtain ⟨t', b', e1, e2, e3, e4, e5, e6⟩ := gcdI_split (t := t) hb
  have g0 := gcdI_pos (t := t) hb
  have : lowN t b = (t', b') := by simp only [lowN, e3, e4]
  rw [this]
  have h1 : lowN t (b * m) = lowN (gcdI t b * t') (gcdI t b * (b' * m)) := by
    rw [← e1, ← Int.mul_assoc, ← e2]
  rw [h1, lowN_scale g0 (Int.mul_pos e5 hm)]
def midN (p q : Nu) : Nu := lowN (p.1 * q.2 + q.1 * p.2) (p.2 * q.2 * 2)
def gapN (p q : Nu) (many : Nat) : List Nu := (List.range many).map fun (i : Nat) => lowN (p.1 * q.2 * (many + 1) + (q.1 * p.2 - p.1 * q.2) * (i + 1)) (p.2 * q.2 * (many + 1))
def nth (l : List Nu) (i : Nat) : Nu := l.getD i (0, 1)
def segN (cs : List Nu) (many i : Nat) : List Nu := nth cs i :: (if i + 1 < cs.length then gapN (nth cs i) (nth cs (i + 1)) many else [])
def headN (p : Nu) (many : Nat) : List Nu := (List.range many).map fun (i : Nat) => lowN (p.1 - ((many : Int) - i) * p.2) p.2
def lastN (p : Nu) (many : Nat) : List Nu := (List.range many).map fun (i : Nat) => lowN (p.1 + ((i : Int) + 1) * p.2) p.2
def rowN (many : Nat) (cs : List Nu) : List Nu := if cs = [] then (List.range many).map (fun (i : Nat) => ((i : Int), (1 : Int))) else
  headN (nth cs 0) many ++ (List.range cs.length).flatMap (segN cs many) ++ lastN (nth cs (cs.length - 1)) many
def candN (cs : List Nu) : List Nu := if cs = [] then [(0, 1)] else
  lowN ((nth cs 0).1 - (nth cs 0).2) (nth cs 0).2 :: (List.range (cs.length - 1)).flatMap (fun i => [nth cs i, midN (nth cs i) (nth cs (i + 1))]) ++ [nth cs (cs.length - 1), lowN ((nth cs (cs.length - 1)).1 + (nth cs (cs.length - 1)).2) (nth cs (cs.length - 1)).2]
theorem gap_one (p q : Nu) : gapN p q 1 = [midN p q] := by
  have e1 : p.1 * q.2 * (((1 : Nat) : Int) + 1) + (q.1 * p.2 - p.1 * q.2) * (((0 : Nat) : Int) + 1) = p.1 * q.2 + q.1 * p.2 := by
    generalize p.1 * q.2 = x
    generalize q.1 * p.2 = y
    omega
  show [lowN _ _] = _
  rw [e1]; rfl
theorem row_one (cs : List Nu) : rowN 1 cs = candN cs := by
  unfold rowN candN
  by_cases h : cs = []
  · rw [if_pos h, if_pos h]; rfl
  · rw [if_neg h, if_neg h]
    obtain ⟨n, hn⟩ : ∃ n, cs.length = n + 1 := ⟨cs.length - 1, by have := List.length_pos_iff.mpr h; omega⟩
    have e1 : headN (nth cs 0) 1 = [lowN ((nth cs 0).1 - (nth cs 0).2) (nth cs 0).2] := by
      show [lowN ((nth cs 0).1 - (((1 : Nat) : Int) - ((0 : Nat) : Int)) * (nth cs 0).2) _] = _
      rw [show (((1 : Nat) : Int) - ((0 : Nat) : Int)) = 1 from rfl, Int.one_mul]
    have e2 : ∀ p : Nu, lastN p 1 = [lowN (p.1 + p.2) p.2] := fun p => by
      show [lowN (p.1 + (((0 : Nat) : Int) + 1) * p.2) _] = _
      rw [show (((0 : Nat) : Int) + 1) = 1 from rfl, Int.one_mul]
    rw [e1, e2, hn, Nat.add_sub_cancel, List.range_succ, List.flatMap_append]
    have e3 : (List.range n).flatMap (segN cs 1) = (List.range n).flatMap fun i => [nth cs i, midN (nth cs i) (nth cs (i + 1))] := by
      rw [List.flatMap_def, List.flatMap_def]
      congr 1
      refine List.map_congr_left fun i hi => ?_
      have := List.mem_range.mp hi
      rw [segN, if_pos (by omega), gap_one]
    have e4 : [n].flatMap (segN cs 1) = [nth cs n] := by
      simp only [List.flatMap_cons, List.flatMap_nil, List.append_nil]
      rw [segN, if_neg (by omega)]
    rw [e3, e4]
    simp
theorem nth_mem {cs : List Nu} {i : Nat} (h : i < cs.length) : nth cs i ∈ cs := by
  unfold nth
  rw [List.getD_eq_getElem?_getD, List.getElem?_eq_getElem h]
  exact List.getElem_mem h
theorem abs_mul {a b : Int} {j k : Nat} (h1 : a.natAbs < 2 ^ j) (h2 : b.natAbs < 2 ^ k) : (a * b).natAbs < 2 ^ (j + k) := by
  rw [Int.natAbs_mul, Nat.pow_add]
  exact Nat.mul_lt_mul'' h1 h2
/-- of a row -/
structure Nb (k : Nat) (p : Nu) : Prop where
  nz : Nz p
  sz : Sz k p
theorem Nb.le {j k : Nat} {p : Nu} (h : Nb j p) (l : j ≤ k) : Nb k p := ⟨h.nz, h.sz.le l⟩
theorem row_nb {many k : Nat} {cs : List Nu} (hm : many ≤ 6) (h : ∀ q ∈ cs, Nb k q) : ∀ q ∈ rowN many cs, Nb (2 * k + 6) q := by
  intro q hq
  unfold rowN at hq
  by_cases hc : cs = []
  · rw [if_pos hc] at hq
    obtain ⟨i, hi, rfl⟩ := List.mem_map.mp hq
    have := List.mem_range.mp hi
    have : 2 ^ 3 ≤ 2 ^ (2 * k + 6) := Nat.pow_le_pow_right (by decide) (by omega)
    exact ⟨⟨by show (0 : Int) < 1; decide, by show ((Nat.gcd _ 1 : Nat) : Int) = 1; rw [Nat.gcd_one_right]; rfl⟩, ⟨by show (i : Int).natAbs < _; omega, by show (1 : Int).natAbs < _; omega⟩⟩
  · rw [if_neg hc] at hq
    have hl := List.length_pos_iff.mpr hc
    have hk1 : (1 : Nat) ≤ 2 ^ k := Nat.one_le_two_pow
    have e2k : 2 ^ (2 * k + 6) = 64 * (2 ^ k * 2 ^ k) := by rw [Nat.pow_add, Nat.two_mul, Nat.pow_add]; omega
    have kk : 2 ^ k ≤ 2 ^ k * 2 ^ k := Nat.le_mul_of_pos_left _ (by omega)
    have near : ∀ (p : Nu) (j : Int), Nb k p → j.natAbs ≤ 7 → Nb (2 * k + 6) (lowN (p.1 + j * p.2) p.2) := fun p j hp hj => by
      refine ⟨lowN_nz hp.nz.pos, lowN_sz hp.nz.pos ?_ ?_⟩
      · have h1 := hp.sz.ta
        have h2 := hp.sz.tb
        have h3 : (j * p.2).natAbs ≤ 7 * p.2.natAbs := by rw [Int.natAbs_mul]; exact Nat.mul_le_mul_right _ hj
        omega
      · have := hp.sz.tb; omega
    rcases List.mem_append.mp hq with hq | hq
    · rcases List.mem_append.mp hq with hq | hq
      · obtain ⟨i, hi, rfl⟩ := List.mem_map.mp hq
        have := List.mem_range.mp hi
        have := near (nth cs 0) (-((many : Int) - i)) (h _ (nth_mem hl)) (by omega)
        rwa [Int.neg_mul, ← Int.sub_eq_add_neg] at this
      · obtain ⟨i, hi, hq⟩ := List.mem_flatMap.mp hq
        have hi := List.mem_range.mp hi
        unfold segN at hq
        rcases List.mem_cons.mp hq with rfl | hq
        · exact (h _ (nth_mem hi)).le (by omega)
        · split at hq
          · rename_i hi2
            obtain ⟨j, hj, rfl⟩ := List.mem_map.mp hq
            have hj := List.mem_range.mp hj
            have hp := h _ (nth_mem hi)
            have hr := h _ (nth_mem hi2)
            generalize nth cs i = p at *
            generalize nth cs (i + 1) = r at *
            have b1 := abs_mul hp.sz.ta hr.sz.tb
            have b2 := abs_mul hr.sz.ta hp.sz.tb
            have b3 := abs_mul hp.sz.tb hr.sz.tb
            rw [Nat.pow_add] at b1 b2 b3
            have pos : 0 < p.2 * r.2 := Int.mul_pos hp.nz.pos hr.nz.pos
            refine ⟨lowN_nz (Int.mul_pos pos (by omega)), lowN_sz (Int.mul_pos pos (by omega)) ?_ ?_⟩
            · generalize p.1 * r.2 = x at *
              generalize r.1 * p.2 = y at *
              have c1 : (x * ((many : Int) + 1)).natAbs ≤ x.natAbs * 7 := by rw [Int.natAbs_mul]; exact Nat.mul_le_mul_left _ (by omega)
              have c2 : ((y - x) * ((j : Int) + 1)).natAbs ≤ (y - x).natAbs * 7 := by rw [Int.natAbs_mul]; exact Nat.mul_le_mul_left _ (by omega)
              omega
            · have c1 : (p.2 * r.2 * ((many : Int) + 1)).natAbs ≤ (p.2 * r.2).natAbs * 7 := by rw [Int.natAbs_mul (p.2 * r.2)]; exact Nat.mul_le_mul_left _ (by omega)
              omega
          · cases hq
    · obtain ⟨i, hi, rfl⟩ := List.mem_map.mp hq
      have := List.mem_range.mp hi
      exact near _ _ (h _ (nth_mem (by omega))) (by omega)
theorem row_len {many : Nat} {cs : List Nu} (hm : many ≤ 6) (hc : cs.length ≤ 50) : (rowN many cs).length ≤ 400 := by
  unfold rowN
  split
  · simp; omega
  · have hs : ∀ i, (segN cs many i).length ≤ 7 := fun i => by
      unfold segN
      split
      · simp [gapN]; omega
      · simp
    have hf : ∀ n, ((List.range n).flatMap (segN cs many)).length ≤ 7 * n := fun n => by
      induction n with
      | zero => simp
      | succ n ih => rw [List.range_succ, List.flatMap_append, List.length_append]; have := hs n; simp only [List.flatMap_cons, List.flatMap_nil, List.append_nil]; omega
    have := hf cs.length
    simp only [List.length_append, headN, lastN, List.length_map, List.length_range]
    omega
theorem abs_sub {x y : Int} {k : Nat} (hx : x.natAbs < 2 ^ k) (hy : y.natAbs < 2 ^ k) : (x - y).natAbs < 2 ^ (k + 1) := by
  rw [Nat.pow_succ]; omega
theorem abs_add {x y : Int} {k : Nat} (hx : x.natAbs < 2 ^ k) (hy : y.natAbs < 2 ^ k) : (x + y).natAbs < 2 ^ (k + 1) := by
  rw [Nat.pow_succ]; omega
end Pi

set_option Elab.async false
set_option linter.all false
set_option maxRecDepth 100000
set_option maxHeartbeats 4000000
/-! PiMc: data of numbers in sequence. -/
namespace Pi
open PySem
theorem uniqL_nD : ∀ (l acc : List Nu), uniqL (acc.map nD) (l.map nD) = (uqN acc l).map nD
  | [], acc => rfl
  | d :: l, acc => by
    rw [List.map_cons, uniqL, nD_any, uqN]
    by_cases h : d ∈ acc
    · rw [if_pos (by simpa using h), if_pos h]; exact uniqL_nD l acc
    · rw [if_neg (by simpa using h), if_neg h]
      have := uniqL_nD l (acc ++ [d])
      rw [List.map_append] at this
      exact this
theorem intTup_nD (p : Nu) : intTup (nD p) = some [p.1, p.2] := rfl
theorem uniqD_nD {l : List Nu} (h : l.length ≤ 100000) : uniqD (.lst (l.map nD)) = some (.lst ((uqN [] l).map nD), true) := by
  have e : ((l.map nD).all fun d => (intTup d).isSome) = true := List.all_eq_true.mpr fun d hd => by
    obtain ⟨p, _, rfl⟩ := List.mem_map.mp hd
    rfl
  have e2 := uniqL_nD l []
  rw [List.map_nil] at e2
  show (if _ then _ else _) = _
  rw [if_pos ⟨e, by simpa using h⟩, e2]
theorem keyN_nD {m : Int} {p : Nu} (h1 : divOk p.2) (h2 : mulOk p.1 (m / p.2)) : keyN m (nD p) = some (keyI m p) := by
  show (if divOk p.2 ∧ mulOk p.1 (m / p.2) then _ else _) = _
  rw [if_pos ⟨h1, h2⟩]; rfl
theorem sortkD_nD {m : Int} {l : List Nu} (h : l.length ≤ 100000) (hk : ∀ q ∈ l, divOk q.2 ∧ mulOk q.1 (m / q.2)) : sortkD m (.lst (l.map nD)) = some (.lst ((sortI m l).map nD), true) := by
  have e : ((l.map nD).all fun d => (keyN m d).isSome) = true := List.all_eq_true.mpr fun d hd => by
    obtain ⟨p, hp, rfl⟩ := List.mem_map.mp hd
    rw [keyN_nD (hk p hp).1 (hk p hp).2]; rfl
  have e2 : sortN m (l.map nD) = (sortI m l).map nD := by
    unfold sortN sortI
    refine (List.map_mergeSort fun a ha b hb => ?_).symm
    rw [keyN_nD (hk a ha).1 (hk a ha).2, keyN_nD (hk b hb).1 (hk b hb).2]
    rfl
  show (if _ then _ else _) = _
  rw [if_pos ⟨e, by simpa using h⟩, e2]
theorem biD_lcm {i j : Int} (h1 : i.natAbs.log2 < 9000) (h2 : j.natAbs.log2 < 9000) : biD .lcm [.int i, .int j] = some (.int (Nat.lcm i.natAbs j.natAbs : Nat), false) := if_pos ⟨h1, h2⟩
theorem log_ltK {n a : Nat} (h : n < 2 ^ a) (k : Nat) (hk : a < k) : n.log2 < k := by have := log2_le h; omega
theorem Sz.log {k : Nat} {p : Nu} (h : Sz k p) (j : Nat) (hk : k < j) : p.1.natAbs.log2 < j ∧ p.2.natAbs.log2 < j := ⟨log_ltK h.ta j hk, log_ltK h.tb j hk⟩
theorem mulSz {i j : Nat} {a b : Int} (h1 : a.natAbs < 2 ^ i) (h2 : b.natAbs < 2 ^ j) (h : i + j < 1000000 := by decide) : mulOk a b := mulOk_of i j h1 h2 h
/-- a common multiple of all bottoms, not too great -/
structure Mul (M : Nat) (l : List Nu) : Prop where
  pos : 0 < M
  lt : M < 2 ^ 8900
  dv : ∀ q ∈ l, q.2.natAbs ∣ M
theorem Mul.sub {M : Nat} {l m : List Nu} (h : Mul M l) (k : ∀ q ∈ m, q ∈ l) : Mul M m := ⟨h.pos, h.lt, fun q hq => h.dv q (k q hq)⟩
theorem prod_mul : ∀ (l : List Nu) (k : Nat), (∀ q ∈ l, Nb k q) → ∃ M, 0 < M ∧ M ≤ 2 ^ (k * l.length) ∧ ∀ q ∈ l, q.2.natAbs ∣ M
  | [], k, _ => ⟨1, by decide, by simp, by simp⟩
  | p :: l, k, h => by
    obtain ⟨M, h1, h2, h3⟩ := prod_mul l k fun q hq => h q (List.mem_cons_of_mem _ hq)
    have hp := h p List.mem_cons_self
    have pp := hp.nz.pos
    refine ⟨p.2.natAbs * M, Nat.mul_pos (by omega) h1, ?_, fun q hq => ?_⟩
    · rw [List.length_cons, Nat.mul_succ, Nat.add_comm, Nat.pow_add]
      exact Nat.mul_le_mul (Nat.le_of_lt hp.sz.tb) h2
    · rcases List.mem_cons.mp hq with rfl | hq
      · exact Nat.dvd_mul_right _ _
      · exact Nat.dvd_trans (h3 q hq) (Nat.dvd_mul_left _ _)
theorem mul_of {l : List Nu} {k : Nat} (h : ∀ q ∈ l, Nb k q) (hk : k * l.length < 8900) : ∃ M, Mul M l := by
  obtain ⟨M, h1, h2, h3⟩ := prod_mul l k h
  exact ⟨M, h1, Nat.lt_of_le_of_lt h2 (Nat.pow_lt_pow_right (by decide) hk), h3⟩
theorem nm_nb {p : Nu} (h : NmP p) : Nb 110 p := ⟨⟨h.pos, h.one⟩, ⟨h.ta, h.tb⟩⟩
theorem nb_num {k : Nat} {p : Nu} (h : Nb k p) : isNum (nD p) = true := by
  have h1 := h.nz.pos
  have h2 := h.nz.one
  have : 1 ≤ p.2 := by omega
  simp [isNum, this, h2]
theorem srt_nb {k : Nat} {l : List Nu} (h : ∀ q ∈ l, Nb k q) : ∀ q ∈ srt l, Nb k q := fun q hq => h q (srt_mem.mp hq)
theorem map_nth {l : List Nu} {i : Nat} (h : i < l.length) : (l.map nD)[i]? = some (nD (nth l i)) := by
  unfold nth
  rw [List.getElem?_map, List.getElem?_eq_getElem h, List.getD_eq_getElem?_getD, List.getElem?_eq_getElem h]
  rfl
theorem atI_m1 {α : Type} {xs : List α} (h : xs ≠ []) : L2.atI xs (-1) = xs[xs.length - 1]? := by
  have := List.length_pos_iff.mpr h
  unfold L2.atI L2.ixN
  rw [if_neg (by omega), if_pos (by omega)]
  simp only [Option.bind_some]
  congr 1
  omega
end Pi

set_option Elab.async false
set_option linter.all false
set_option maxRecDepth 100000
set_option maxHeartbeats 4000000
/-! PiMd: lots of numbers. -/
namespace Pi
open PySem
def IsLot (d : D) (l : List Nu) : Prop := d = .tup (l.map nD) ∨ d = .lst (l.map nD)
inductive Lots : List D → List (List Nu) → Prop
  | nil : Lots [] []
  | cons {d : D} {ds : List D} {l : List Nu} {ls : List (List Nu)} : IsLot d l → Lots ds ls → Lots (d :: ds) (l :: ls)
theorem Lots.snoc {ds : List D} {ls : List (List Nu)} {d : D} {l : List Nu} (h : Lots ds ls) (hd : IsLot d l) : Lots (ds ++ [d]) (ls ++ [l]) := by
  induction h with
  | nil => exact .cons hd .nil
  | cons a _ ih => exact .cons a ih
theorem Lots.map {α : Type} (f : α → D) (g : α → List Nu) : ∀ (xs : List α), (∀ x ∈ xs, IsLot (f x) (g x)) → Lots (xs.map f) (xs.map g)
  | [], _ => .nil
  | x :: xs, h => .cons (h x List.mem_cons_self) (Lots.map f g xs fun y hy => h y (List.mem_cons_of_mem _ hy))
theorem loop2_lots {f : D → Env → List D → Res (List D)} {env : Env} (hf : ∀ d l acc, IsLot d l → acc.length + l.length ≤ 100000 → f d env acc = .ok (acc ++ l.map nD) env) :
    ∀ {ds : List D} {ls : List (List Nu)} (acc : List D), Lots ds ls → acc.length + ls.flatten.length ≤ 100000 → lcLoop2 f ds env acc = .ok (acc ++ ls.flatten.map nD) env
  | _, _, acc, .nil, _ => by simp [lcLoop2]
  | _, _, acc, .cons (l := l) (ls := ls) hd ht, hz => by
    rw [List.flatten_cons, List.length_append] at hz
    rw [lcLoop2, hf _ _ _ hd (by omega), Res.bind_ok, loop2_lots hf _ ht (by rw [List.length_append, List.length_map]; omega)]
    simp
theorem lcLoop_id {f : D → Env → Res (Option D)} {env : Env} {xs acc : List D} (h : ∀ x ∈ xs, f x env = .ok (some x) env) (hl : acc.length + xs.length ≤ 100000) : lcLoop f xs env acc = .ok (acc ++ xs) env := by
  have := lcLoop_all (g := id) h hl
  simpa using this
theorem lc2_of {L : Lib} {elt : E} {own : List Nat} {tg tg1 : Tg} {k k1 : ItK} {es es1 conds conds1 : List E} {env env1 env2 : Env} {items ds : List D} (hi : (args L es env).bind (walkB k) = .ok items env1)
    (hl : lcLoop2 (fun d e acc => match tg.store d false e with
            | none => .bad
            | some e1 => (holds L conds e1).bind fun b e2 => if b then
                ((args L es1 e2).bind (walkB k1)).bind fun items1 e3 =>
                  (lcLoop (fun d e => match tg1.store d false e with
                    | none => .bad
                    | some e1 => (holds L conds1 e1).bind fun b e2 => if b then (eval L elt e2).bind fun r e3 => .ok (some r.1) (wipeE e3 tg1.slots) else .ok none (wipeE e2 tg1.slots)) items1 (wipeE e3 tg1.slots) acc).bind fun acc' e4 => .ok acc' (wipeE e4 own)
              else .ok acc (wipeE e2 own)) items (wipeE env1 own) [] = .ok ds env2) :
    eval L (.lc2 elt own tg k es conds tg1 k1 es1 conds1) env = .ok (.lst ds, true) (backE env1 env2 own) := by
  rw [eval, hi, Res.bind_ok]
  exact congrArg (fun r => match r with | .ok ds env2 => Res.ok (D.lst ds, true) (backE env1 env2 own) | _ => Res.bad) hl
end Pi

set_option Elab.async false
set_option linter.all false
set_option maxRecDepth 100000
set_option maxHeartbeats 4000000
/-! PiMe: formulas: numbers in them, truths. -/
namespace Pi
open PySem
def Tq (pool : List Nu) (n : Int) (d : D) : Prop := (∃ i, d = .int i ∧ 0 ≤ i ∧ i < n) ∨ ∃ p, p ∈ pool ∧ d = nD p
/-- a formula of so many names, its numbers out of a pool, some and all at most q within one another -/
inductive Fq (pool : List Nu) : Nat → Int → D → Prop
  | yes (q : Nat) (n : Int) : Fq pool q n (.tup [.str "yes"])
  | cmp (q : Nat) (n : Int) (w : Str) (a b : D) : (w = "less" ∨ w = "same") → Tq pool n a → Tq pool n b → Fq pool q n (.tup [.str w, a, b])
  | not (q : Nat) (n : Int) (x : D) : Fq pool q n x → Fq pool q n (.tup [.str "not", x])
  | qu (q : Nat) (n : Int) (w : Str) (x : D) : (w = "some" ∨ w = "all") → Fq pool q (n + 1) x → Fq pool (q + 1) n (.tup [.str w, x])
  | lst (q : Nat) (n : Int) (w : Str) (ys : List D) : (w = "both" ∨ w = "either") → ys ≠ [] → ys.length ≤ 20 → (∀ y ∈ ys, Fq pool q n y) → Fq pool q n (.tup [.str w, .tup ys])
theorem Tq.trm {pool : List Nu} {n : Int} {d : D} (h : Tq pool n d) (hp : ∀ p ∈ pool, NmP p) : Trm n d := by
  rcases h with h | ⟨p, hm, rfl⟩
  · exact .inl h
  · exact .inr ⟨p, rfl, hp p hm⟩
theorem Tq.mono {pool pool' : List Nu} {n : Int} {d : D} (h : Tq pool n d) (hp : ∀ p ∈ pool, p ∈ pool') : Tq pool' n d := by
  rcases h with h | ⟨p, hm, rfl⟩
  · exact .inl h
  · exact .inr ⟨p, hp p hm, rfl⟩
theorem Fq.fm {pool : List Nu} {q : Nat} {n : Int} {d : D} (h : Fq pool q n d) (hp : ∀ p ∈ pool, NmP p) : Fm n d := by
  induction h with
  | yes q n => exact .yes _
  | cmp q n w a b hw ha hb => exact .cmp _ _ _ _ hw (ha.trm hp) (hb.trm hp)
  | not q n x h ih => exact .not _ _ ih
  | qu q n w x hw h ih => exact .qu _ _ _ hw ih
  | lst q n w ys hw h0 hz h ih => exact .lst _ _ _ hw h0 (by omega) ih
theorem Fq.mono {pool pool' : List Nu} {q : Nat} {n : Int} {d : D} (h : Fq pool q n d) (hp : ∀ p ∈ pool, p ∈ pool') : Fq pool' q n d := by
  induction h with
  | yes q n => exact .yes _ _
  | cmp q n w a b hw ha hb => exact .cmp _ _ _ _ _ hw (ha.mono hp) (hb.mono hp)
  | not q n x h ih => exact .not _ _ _ ih
  | qu q n w x hw h ih => exact .qu _ _ _ _ hw ih
  | lst q n w ys hw h0 hz h ih => exact .lst _ _ _ _ hw h0 hz ih
def wth (pl : List Nu) : D → Nu
  | .int i => nth pl i.toNat
  | .tup [.int a, .int b] => (a, b)
  | _ => (0, 1)
def trueF (cs : List Nu) : Nat → D → List Nu → Bool
  | 0, _, _ => false
  | k + 1, d, pl => match d with
    | .tup [.str w, x] =>
      if w = "both" then (match x with | .tup ys => ys.all fun y => trueF cs k y pl | _ => false)
      else if w = "either" then (match x with | .tup ys => ys.any fun y => trueF cs k y pl | _ => false)
      else if w = "not" then !trueF cs k x pl
      else if w = "some" then (candN (srt (cs ++ pl))).any fun p => trueF cs k x (pl ++ [p])
      else (candN (srt (cs ++ pl))).all fun p => trueF cs k x (pl ++ [p])
    | .tup [.str w, a, b] => if w = "same" then decide (wth pl a = wth pl b) else lt2 (wth pl a) (wth pl b)
    | _ => true
section
variable {cs pl : List Nu} {k : Nat} {x a b : D} {ys : List D}
theorem trueF_both : trueF cs (k + 1) (.tup [.str "both", .tup ys]) pl = ys.all fun y => trueF cs k y pl := by simp [trueF]
theorem trueF_either : trueF cs (k + 1) (.tup [.str "either", .tup ys]) pl = ys.any fun y => trueF cs k y pl := by simp [trueF]
theorem trueF_not : trueF cs (k + 1) (.tup [.str "not", x]) pl = !trueF cs k x pl := by simp [trueF]
theorem trueF_some : trueF cs (k + 1) (.tup [.str "some", x]) pl = (candN (srt (cs ++ pl))).any fun p => trueF cs k x (pl ++ [p]) := by simp [trueF]
theorem trueF_all : trueF cs (k + 1) (.tup [.str "all", x]) pl = (candN (srt (cs ++ pl))).all fun p => trueF cs k x (pl ++ [p]) := by simp [trueF]
theorem trueF_less : trueF cs (k + 1) (.tup [.str "less", a, b]) pl = lt2 (wth pl a) (wth pl b) := by simp [trueF]
theorem trueF_same : trueF cs (k + 1) (.tup [.str "same", a, b]) pl = decide (wth pl a = wth pl b) := by simp [trueF]
theorem trueF_yes : trueF cs (k + 1) (.tup [.str "yes"]) pl = true := rfl
end
theorem all_eq {α : Type} {f g : α → Bool} : ∀ {ys : List α}, (∀ y ∈ ys, f y = g y) → ys.all f = ys.all g
  | [], _ => rfl
  | y :: ys, h => by rw [List.all_cons, List.all_cons, h y List.mem_cons_self, all_eq fun z hz => h z (List.mem_cons_of_mem _ hz)]
theorem any_eq {α : Type} {f g : α → Bool} : ∀ {ys : List α}, (∀ y ∈ ys, f y = g y) → ys.any f = ys.any g
  | [], _ => rfl
  | y :: ys, h => by rw [List.any_cons, List.any_cons, h y List.mem_cons_self, any_eq fun z hz => h z (List.mem_cons_of_mem _ hz)]
/-- without some and all the constants do not matter -/
theorem trueF_cs {pool cs cs' : List Nu} {q : Nat} {n : Int} {d : D} (h : Fq pool q n d) : q = 0 → ∀ k pl, trueF cs k d pl = trueF cs' k d pl := by
  induction h with
  | yes q n => intro _ k pl; cases k <;> rfl
  | cmp q n w a b hw ha hb => intro _ k pl; cases k <;> rfl
  | not q n x h ih =>
    intro hq k pl
    cases k with
    | zero => rfl
    | succ k => rw [trueF_not, trueF_not, ih hq]
  | qu q n w x hw h ih => intro hq; cases hq
  | lst q n w ys hw h0 hz h ih =>
    intro hq k pl
    cases k with
    | zero => rfl
    | succ k =>
      have e : ∀ y ∈ ys, trueF cs k y pl = trueF cs' k y pl := fun y hy => ih y hy hq k pl
      rcases hw with rfl | rfl
      · rw [trueF_both, trueF_both]
        exact all_eq e
      · rw [trueF_either, trueF_either]
        exact any_eq e
def numOf : D → List Nu
  | .tup [.int a, .int b] => [(a, b)]
  | _ => []
def numsF : Nat → D → List Nu
  | 0, _ => []
  | k + 1, d => match d with
    | .tup [.str w, x] => if w = "both" ∨ w = "either" then (match x with | .tup ys => ys.flatMap (numsF k) | _ => []) else numsF k x
    | .tup [.str _, a, b] => numOf a ++ numOf b
    | _ => []
theorem Tq.nums {pool : List Nu} {n : Int} {d : D} (h : Tq pool n d) : ∀ p ∈ numOf d, p ∈ pool := by
  rcases h with ⟨i, rfl, _⟩ | ⟨p, hp, rfl⟩
  · intro p hp; cases hp
  · intro p' hp'
    have : p' = p := by simpa [numOf, nD] using hp'
    rw [this]; exact hp
theorem numsF_pool {pool : List Nu} {q : Nat} {n : Int} {d : D} (h : Fq pool q n d) : ∀ k, ∀ p ∈ numsF k d, p ∈ pool := by
  induction h with
  | yes q n => intro k p hp; cases k <;> cases hp
  | cmp q n w a b hw ha hb =>
    intro k p hp
    cases k with
    | zero => cases hp
    | succ k =>
      rcases List.mem_append.mp (show p ∈ numOf a ++ numOf b from hp) with h | h
      · exact ha.nums p h
      · exact hb.nums p h
  | not q n x h ih =>
    intro k p hp
    cases k with
    | zero => cases hp
    | succ k => exact ih k p (by simpa [numsF] using hp)
  | qu q n w x hw h ih =>
    intro k p hp
    cases k with
    | zero => cases hp
    | succ k => exact ih k p (by rcases hw with rfl | rfl <;> simpa [numsF] using hp)
  | lst q n w ys hw h0 hz h ih =>
    intro k p hp
    cases k with
    | zero => cases hp
    | succ k =>
      have hp : p ∈ ys.flatMap (numsF k) := by rcases hw with rfl | rfl <;> simpa [numsF] using hp
      obtain ⟨y, hy, hp⟩ := List.mem_flatMap.mp hp
      exact ih y hy k p hp
/-- numbers of a pool, each once, are no more than the pool has -/
theorem srt_pool {pool l : List Nu} (hn : ∀ p ∈ pool, Nz p) (h : ∀ p ∈ l, p ∈ pool) : (srt l).length ≤ pool.length :=
  (srt_std fun q hq => hn q (h q hq)).nodup.length_le_of_subset fun q hq => h q (srt_mem.mp hq)
theorem srt_flat {α : Type} {f : α → List Nu} {xs : List α} (hn : ∀ x ∈ xs, ∀ p ∈ f x, Nz p) : srt (xs.flatMap fun x => srt (f x)) = srt (xs.flatMap f) :=
  srt_congr (fun q hq => by
    obtain ⟨x, hx, hq⟩ := List.mem_flatMap.mp hq
    exact hn x hx q (srt_mem.mp hq)) fun q => by
    rw [List.mem_flatMap, List.mem_flatMap]
    exact ⟨fun ⟨x, hx, hq⟩ => ⟨x, hx, srt_mem.mp hq⟩, fun ⟨x, hx, hq⟩ => ⟨x, hx, srt_mem.mpr hq⟩⟩
theorem flat_len {α : Type} {f : α → List Nu} {b : Nat} : ∀ (xs : List α), (∀ x ∈ xs, (f x).length ≤ b) → (xs.flatMap f).length ≤ b * xs.length
  | [], _ => by simp
  | x :: xs, h => by
    have h1 := h x List.mem_cons_self
    have h2 := flat_len xs fun y hy => h y (List.mem_cons_of_mem _ hy)
    rw [List.flatMap_cons, List.length_append, List.length_cons, Nat.mul_succ]
    omega
/-! comprehensions over numbers -/
def unN : D → Nu
  | .tup [.int a, .int b] => (a, b)
  | _ => (0, 1)
theorem lc_mapN {L : Lib} {elt : E} {own : List Nat} {tg : Tg} {k : ItK} {es : List E} {env env1 : Env} {l : List Nu} (g : Nu → D) (hi : (args L es env).bind (walkB k) = .ok (l.map nD) env1) (hz : l.length ≤ 100000)
    (h : ∀ p ∈ l, ∃ e1 e2 fr, tg.store (nD p) false (wipeE env1 own) = some e1 ∧ eval L elt e1 = .ok (g p, fr) e2 ∧ wipeE e2 own = wipeE env1 own) :
    eval L (.lc elt own tg k es []) env = .ok (.lst (l.map g), true) (backE env1 (wipeE env1 own) own) := by
  rw [lc_map (g := fun d => g (unN d)) hi (by simpa using hz) fun x hx => by
    obtain ⟨p, hp, rfl⟩ := List.mem_map.mp hx
    exact h p hp]
  rw [List.map_map]
  rfl
theorem cmpD_eqs {s w : Str} : cmpD .eq (.str s) (.str w) = some (decide (s = w)) := by
  rw [cmpD_eq (by simp [D.depth]) (by simp [D.depth])]
  simp only [D.eqb]
  by_cases h : s = w <;> simp [h]
theorem cmpD_ins {w : Str} {ys : List Str} : cmpD .isin (.str w) (.tup (ys.map D.str)) = some (decide (w ∈ ys)) := by
  have hd : D.depths (ys.map D.str) ≤ 63 := depths_of fun y hy => by
    obtain ⟨s, _, rfl⟩ := List.mem_map.mp hy
    simp [D.depth]
  show (if _ then _ else _) = _
  rw [if_pos ⟨by simp [D.depth], hd⟩]
  congr 1
  induction ys with
  | nil => simp
  | cons y ys ih =>
    simp only [List.map_cons, List.any_cons, List.mem_cons]
    rw [ih (by simp only [List.map_cons, D.depths] at hd; omega)]
    simp only [D.eqb]
    by_cases h : y = w
    · subst h; simp
    · have h' : ¬ w = y := fun e => h e.symm
      simp [h, h']
theorem any_map_id {α : Type} (f : α → Bool) (l : List α) : (l.map f).any id = l.any f := by simp [List.any_map]
theorem all_map_id {α : Type} (f : α → Bool) (l : List α) : (l.map f).all id = l.all f := by simp [List.all_map]
theorem cmpD_isbl {α : Type} (f : α → Bool) (v : Bool) (l : List α) : cmpD .isin (.bl v) (.lst (l.map fun x => .bl (f x))) = some (l.any fun x => f x == v) := by
  have hd : D.depths (l.map fun x => D.bl (f x)) ≤ 63 := depths_of fun y hy => by
    obtain ⟨s, _, rfl⟩ := List.mem_map.mp hy
    simp [D.depth]
  show (if _ then _ else _) = _
  rw [if_pos ⟨by simp [D.depth], hd⟩, List.any_map]
  rfl
theorem any_true {α : Type} (f : α → Bool) (l : List α) : (l.any fun x => f x == true) = l.any f := by simp
theorem any_false {α : Type} (f : α → Bool) (l : List α) : (!l.any fun x => f x == false) = l.all f := by
  induction l with
  | nil => rfl
  | cons x l ih => simp only [List.any_cons, List.all_cons, ← ih]; cases f x <;> simp
/-- how great the numbers of a place may be, some and all still to come -/
def kz : Nat → Nat
  | 0 => 930
  | 1 => 460
  | _ => 226
theorem nth_app {pl : List Nu} {i : Nat} (h : i < pl.length) : (pl.map nD)[i]? = some (nD (nth pl i)) := map_nth h
theorem wth_nb {pool pl : List Nu} {n : Int} {K : Nat} {d : D} (h : Tq pool n d) (hn : (pl.length : Int) = n) (hK : 110 ≤ K) (hp : ∀ p ∈ pool, Nb 110 p) (hl : ∀ p ∈ pl, Nb K p) : Nb K (wth pl d) := by
  rcases h with ⟨i, rfl, h1, h2⟩ | ⟨p, hm, rfl⟩
  · exact hl _ (nth_mem (by omega))
  · exact (hp p hm).le hK
theorem mul_app {cs pl : List Nu} {a b : Nat} (hc : ∀ p ∈ cs, Nb a p) (hl : ∀ p ∈ pl, Nb b p) (hab : a ≤ b) (h : b * (cs.length + pl.length) < 8900) : ∃ M, Mul M (cs ++ pl) :=
  mul_of (k := b) (fun q hq => (List.mem_append.mp hq).elim (fun h => (hc q h).le hab) fun h => hl q h) (by rw [List.length_append]; exact h)
theorem Tq.is {pool : List Nu} {n : Int} {d : D} (h : Tq pool n d) : (∃ i : Nat, d = .int i ∧ (i : Int) < n) ∨ ∃ p ∈ pool, d = nD p := by
  rcases h with ⟨i, rfl, h1, h2⟩ | ⟨p, hp, rfl⟩
  · exact .inl ⟨i.toNat, by rw [Int.toNat_of_nonneg h1], by omega⟩
  · exact .inr ⟨p, hp, rfl⟩
theorem Tq.depth {pool : List Nu} {n : Int} {d : D} (h : Tq pool n d) : d.depth ≤ 1 := by
  rcases h with ⟨i, rfl, h1, h2⟩ | ⟨q, _, rfl⟩
  · simp [D.depth]
  · rw [nD_depth]; omega
/-- parts of a formula -/
def partsF : D → List D
  | .tup [.str w, x] => if w = "both" ∨ w = "either" then (match x with | .tup ys => ys | _ => []) else [x]
  | _ => []
theorem numsF_parts {pool : List Nu} {q : Nat} {m : Int} {d : D} (h : Fq pool q m d) (k : Nat) : (∀ w a b, d ≠ .tup [.str w, a, b]) → numsF (k + 1) d = (partsF d).flatMap (numsF k) := by
  intro hne
  cases h with
  | yes => rfl
  | cmp _ _ w a b hw ha hb => exact absurd rfl (hne _ _ _)
  | not _ _ x h => simp [numsF, partsF]
  | qu _ _ w x hw h => rcases hw with rfl | rfl <;> simp [numsF, partsF]
  | lst _ _ w ys hw h0 hz h => rcases hw with rfl | rfl <;> simp [numsF, partsF]
theorem Fq.part {pool : List Nu} {q : Nat} {m : Int} {d : D} (h : Fq pool q m d) : ∀ y ∈ partsF d, y.depth < d.depth ∧ ∃ q' m', Fq pool q' m' y := by
  intro y hy
  cases h with
  | yes => cases hy
  | cmp => cases hy
  | not _ _ x h =>
    have : y = x := by simpa [partsF] using hy
    subst this
    exact ⟨by rw [depth_tup, depths_cons, depths_cons]; omega, _, _, h⟩
  | qu _ _ w x hw h =>
    have : y = x := by rcases hw with rfl | rfl <;> simpa [partsF] using hy
    subst this
    exact ⟨by rw [depth_tup, depths_cons, depths_cons]; omega, _, _, h⟩
  | lst _ _ w ys hw h0 hz h =>
    have hy : y ∈ ys := by rcases hw with rfl | rfl <;> simpa [partsF] using hy
    exact ⟨by have := depths_mem hy; rw [depth_tup, depths_cons, depths_cons, depth_tup]; omega, _, _, h y hy⟩
theorem Fq.parts {pool : List Nu} {q : Nat} {m : Int} {d : D} (h : Fq pool q m d) : (partsF d).length ≤ 20 := by
  cases h with
  | yes => simp [partsF]
  | cmp => simp [partsF]
  | not _ _ x h => simp [partsF]
  | qu _ _ w x hw h => rcases hw with rfl | rfl <;> simp [partsF]
  | lst _ _ w ys hw h0 hz h => rcases hw with rfl | rfl <;> simpa [partsF] using hz
end Pi

set_option Elab.async false
set_option linter.all false
set_option maxRecDepth 100000
set_option maxHeartbeats 4000000
/-! PiMf: comprehensions and loops over ranges. -/
namespace Pi
open PySem
theorem rangeD_map (lo : Int) (n : Nat) : rangeD lo n = (List.range n).map fun (i : Nat) => D.int (lo + i) := rfl
theorem lcLoop_each {α : Type} {F : D → Env → Res (Option D)} {env : Env} (f g : α → D) : ∀ (xs : List α) (acc : List D), (∀ x ∈ xs, F (f x) env = .ok (some (g x)) env) → acc.length + xs.length ≤ 100000 → lcLoop F (xs.map f) env acc = .ok (acc ++ xs.map g) env
  | [], acc, _, _ => by simp [lcLoop]
  | x :: xs, acc, h, hl => by
    have h1 := h x List.mem_cons_self
    simp only [List.length_cons] at hl
    have ih := lcLoop_each f g xs (acc ++ [g x]) (fun y hy => h y (List.mem_cons_of_mem _ hy)) (by simp; omega)
    have : acc.length < 100000 := by omega
    simp [lcLoop, h1, this, ih]
theorem lc_of_loop {L : Lib} {elt : E} {own : List Nat} {tg : Tg} {k : ItK} {es : List E} {env env1 : Env} {α : Type} {xs : List α} (f : α → D) (g : α → D) (hi : (args L es env).bind (walkB k) = .ok (xs.map f) env1) (hz : xs.length ≤ 100000)
    (h : ∀ x ∈ xs, ∃ e1 e2 fr, tg.store (f x) false (wipeE env1 own) = some e1 ∧ eval L elt e1 = .ok (g x, fr) e2 ∧ wipeE e2 own = wipeE env1 own) :
    eval L (.lc elt own tg k es []) env = .ok (.lst (xs.map g), true) (backE env1 (wipeE env1 own) own) := by
  refine lc_of hi ((lcLoop_each f g xs [] (fun x hx => ?_) (by simpa using hz)).trans (by simp))
  obtain ⟨e1, e2, fr, h1, h2, h3⟩ := h x hx
  simp [h1, holds, h2, h3]
/-- over a range -/
theorem lc_mapR {L : Lib} {elt : E} {own : List Nat} {tg : Tg} {k : ItK} {es : List E} {env env1 : Env} {lo : Int} {n : Nat} (g : Nat → D) (hi : (args L es env).bind (walkB k) = .ok (rangeD lo n) env1) (hz : n ≤ 100000)
    (h : ∀ i, i < n → ∃ e1 e2 fr, tg.store (.int (lo + i)) false (wipeE env1 own) = some e1 ∧ eval L elt e1 = .ok (g i, fr) e2 ∧ wipeE e2 own = wipeE env1 own) :
    eval L (.lc elt own tg k es []) env = .ok (.lst ((List.range n).map g), true) (backE env1 (wipeE env1 own) own) :=
  lc_of_loop (fun (i : Nat) => D.int (lo + i)) g (by rw [hi, rangeD_map]) (by simpa using hz) fun x hx => h x (List.mem_range.mp hx)
theorem iterD_range2 {a b : Int} (h0 : 0 ≤ a) (hab : a ≤ b) (h : b ≤ 1000000) : iterD .range [.int a, .int b] = some (rangeD a (b - a).toNat) := by
  show (if (rngOk a && rngOk b) = true then some (rangeD a (b - a).toNat) else none) = _
  rw [rngOk_of h0 (by omega), rngOk_of (by omega) h]; rfl
theorem range_walk {L : Lib} {es : List E} {env env1 : Env} {k : Nat} (hk : k ≤ 1000000) (h : args L es env = .ok [.val (.int k)] env1) : (args L es env).bind (walkB .range) = .ok (rangeD 0 k) env1 := by
  rw [h, Res.bind_ok]
  have := iterD_range (i := (k : Int)) (by omega) (by omega)
  rw [Int.toNat_natCast] at this
  exact walkB_of (ds := [.int k]) rfl this
theorem range_walkS {L : Lib} {es : List E} {env env1 : Env} {k i : Nat} (hk : k ≤ 1000000) (h : args L es env = .ok [.slot i] env1) (hi : env1[i]? = some (.sh (.int k))) : (args L es env).bind (walkB .range) = .ok (rangeD 0 k) env1 := by
  rw [h, Res.bind_ok]
  have := iterD_range (i := (k : Int)) (by omega) (by omega)
  rw [Int.toNat_natCast] at this
  have w := walkB_of (xs := [.slot i]) (env := env1) (ds := [.int k]) (by simp [peeks, Arg.peek, hi]) this
  rw [w]
  simp [shares, hi]
/-- a loop over the items of a list of anything -/
theorem Ok_each {α : Type} {f : D → Env → Res Fl} (g : α → D) (I : Nat → Env → Prop) (xs : List α) {env : Env} (h0 : I 0 env) (hs : ∀ j (hj : j < xs.length) env, I j env → Ok (f (g xs[j]) env) fun fl e => (fl = .nx ∨ fl = .ct) ∧ I (j + 1) e) :
    Ok (foLoop f (xs.map g) env) fun fl e => fl = .nx ∧ I xs.length e := by
  have := Ok_loop (f := f) (items := xs.map g) I h0 fun j hj env h => by
    rw [List.getElem_map]
    exact hs j (by simpa using hj) env h
  rwa [List.length_map] at this
theorem take_flat {α : Type} (f : α → List Nu) (xs : List α) {j : Nat} (hj : j < xs.length) : (xs.take (j + 1)).flatMap f = (xs.take j).flatMap f ++ f xs[j] := by
  have e : xs.take (j + 1) = xs.take j ++ [xs[j]] := by rw [List.take_succ, List.getElem?_eq_getElem hj]; rfl
  rw [e, List.flatMap_append]
  simp only [List.flatMap_cons, List.flatMap_nil, List.append_nil]
/-- a loop, by an invariant -/
theorem Ok_foL {L : Lib} {tg : Tg} {k : ItK} {es : List E} {b : List S} {env env1 : Env} {items : List D} (hi : (args L es env).bind (walkB k) = .ok items env1) (I : Nat → Env → Prop) (h0 : I 0 env1)
    (hs : ∀ j (hj : j < items.length) env, I j env → Ok (turnOf L tg b items[j] env) fun fl e => (fl = .nx ∨ fl = .ct) ∧ I (j + 1) e) : Ok (exec L (.fo tg k es b) env) fun fl e => fl = .nx ∧ I items.length e := Ok_fo hi (Ok_loop I h0 hs)
/-- over a range -/
theorem Ok_foR {L : Lib} {tg : Tg} {k : ItK} {es : List E} {b : List S} {env env1 : Env} {lo : Int} {n : Nat} (hi : (args L es env).bind (walkB k) = .ok (rangeD lo n) env1) (I : Nat → Env → Prop) (h0 : I 0 env1)
    (hs : ∀ j, j < n → ∀ env, I j env → Ok (turnOf L tg b (.int (lo + j)) env) fun fl e => (fl = .nx ∨ fl = .ct) ∧ I (j + 1) e) : Ok (exec L (.fo tg k es b) env) fun fl e => fl = .nx ∧ I n e := by
  have := Ok_foL (tg := tg) (b := b) hi I h0 fun j hj env h => by
    rw [rangeD_len] at hj
    have e : (rangeD lo n)[j]'(by rw [rangeD_len]; exact hj) = .int (lo + j) := by simp [rangeD]
    rw [e]
    exact hs j hj env h
  rwa [rangeD_len] at this
/-- over a list of anything -/
theorem Ok_foM {α : Type} {L : Lib} {tg : Tg} {k : ItK} {es : List E} {b : List S} {env env1 : Env} {xs : List α} (g : α → D) (hi : (args L es env).bind (walkB k) = .ok (xs.map g) env1) (I : Nat → Env → Prop) (h0 : I 0 env1)
    (hs : ∀ j (hj : j < xs.length) env, I j env → Ok (turnOf L tg b (g xs[j]) env) fun fl e => (fl = .nx ∨ fl = .ct) ∧ I (j + 1) e) : Ok (exec L (.fo tg k es b) env) fun fl e => fl = .nx ∧ I xs.length e := by
  have := Ok_foL (tg := tg) (b := b) hi I h0 fun j hj env h => by
    rw [List.getElem_map]
    exact hs j (by simpa using hj) env h
  rwa [List.length_map] at this
theorem bin_slot {L : Lib} {o : Bop} {i : Nat} {b : E} {env env1 : Env} {d y : D} {r : D × Bool} {f2 : Bool} (hi : (∃ d, env[i]? = some (.sh d)) ∨ ∃ l d, env[i]? = some (.ow l d)) (hb : ∀ i, b ≠ .var i) (h2 : eval L b env = .ok (y, f2) env1)
    (h1 : (Arg.slot i).peek env1 = some d) (h : opD o d y = some r) : eval L (.bin o (.var i) b) env = .ok r env1 := by
  have e2 : argOf b (eval L b env) env = .ok (.val y) env1 := by
    rw [h2]
    cases b <;> first | rfl | exact absurd rfl (hb _)
  have e1 : argOf (.var i) (eval L (.var i) env) env = .ok (.slot i) env := by
    simp only [argOf]
    rcases hi with ⟨d, hi⟩ | ⟨l, d, hi⟩ <;> rw [hi]
  rw [eval, e1, Res.bind_ok, e2, Res.bind_ok, h1]
  simp only [Arg.peek, Option.bind_some, h, pureR_some]
theorem cutL_nat {α : Type} (xs : List α) (k : Nat) : cutL xs none (some (k : Int)) = xs.take k := by
  unfold cutL
  rw [HT.sIx_none, HT.sIx_nat]
  simp only [List.drop_zero, Nat.sub_zero]
  by_cases h : k ≤ xs.length
  · rw [Nat.min_eq_left h]
  · rw [Nat.min_eq_right (by omega), List.take_of_length_le (Nat.le_refl _), List.take_of_length_le (by omega)]
theorem asg_of {L : Lib} {i : Nat} {e : E} {env env1 env2 : Env} {d : D} {fr : Bool} (h : eval L e env = .ok (d, fr) env1) (h2 : (Tg.name i).store d fr env1 = some env2) : exec L (.asg (.name i) e) env = .ok .nx env2 := by
  rw [exec, h, Res.bind_ok]
  simp only [h2, pureR_some, Res.bind_ok]
theorem cut_to {L : Lib} {a : E} {env env1 : Env} {d : D} {fr : Bool} {k : Int} {r : D × Bool} (ha : ∀ i, a ≠ .var i) (h : eval L a env = .ok (d, fr) env1) (hr : cutD d none (some k) = some r) : eval L (.cut a (.con .non) (.con (.int k))) env = .ok r env1 := by
  have e1 : argOf a (eval L a env) env = .ok (.val d) env1 := by
    rw [h]
    cases a <;> first | rfl | exact absurd rfl (ha _)
  simp only [eval, e1, Res.bind_ok, partOf, Arg.peek, Option.bind_some, hr, pureR_some]
theorem cutL_drop {α : Type} (xs : List α) (k : Nat) : cutL xs (some (k : Int)) none = xs.drop k := by
  unfold cutL
  rw [HT.sIx_none, HT.sIx_nat]
  by_cases h : k ≤ xs.length
  · rw [Nat.min_eq_left h, List.take_of_length_le (by simp)]
  · rw [Nat.min_eq_right (by omega), List.drop_of_length_le (Nat.le_refl _), List.drop_of_length_le (by omega)]
    simp
/-- a comprehension whose parts draw, some items left out -/
theorem Ok_lcF {f : D → Env → Res (Option D)} (I : Nat → List D → Env → Prop) {items : List D} {env : Env} (hz : items.length ≤ 100000) (h0 : I 0 [] env)
    (hs : ∀ j (hj : j < items.length) acc env, acc.length ≤ j → I j acc env → Ok (f items[j] env) fun o e => (∃ d, o = some d ∧ I (j + 1) (acc ++ [d]) e) ∨ (o = none ∧ I (j + 1) acc e)) : Ok (lcLoop f items env []) fun ds e => ds.length ≤ items.length ∧ I items.length ds e := by
  have key : ∀ (xs : List D) (k : Nat) (acc : List D) (env : Env), acc.length ≤ k → k + xs.length ≤ 100000 → I k acc env → (∀ j (hj : j < xs.length) acc' env, acc'.length ≤ k + j → I (k + j) acc' env → Ok (f xs[j] env) fun o e => (∃ d, o = some d ∧ I (k + j + 1) (acc' ++ [d]) e) ∨ (o = none ∧ I (k + j + 1) acc' e)) →
      Ok (lcLoop f xs env acc) fun ds e => ds.length ≤ k + xs.length ∧ I (k + xs.length) ds e := by
    intro xs
    induction xs with
    | nil => intro k acc env hl _ h _; simp only [lcLoop, Ok_ok]; exact ⟨hl, h⟩
    | cons x xs ih =>
      intro k acc env hl hz h H
      simp only [List.length_cons] at hz
      simp only [lcLoop, Ok_bind]
      have H' : ∀ j (hj : j < xs.length) acc' env, acc'.length ≤ k + 1 + j → I (k + 1 + j) acc' env → Ok (f xs[j] env) fun o e => (∃ d, o = some d ∧ I (k + 1 + j + 1) (acc' ++ [d]) e) ∨ (o = none ∧ I (k + 1 + j + 1) acc' e) := fun j hj acc' env hl' hI' => by
        have := H (j + 1) (by simp; omega) acc' env (by omega) (by rw [show k + (j + 1) = k + 1 + j by omega]; exact hI')
        simpa [show k + (j + 1) + 1 = k + 1 + j + 1 by omega] using this
      refine (H 0 (by simp) acc env (by omega) h).mono fun o e ho => ?_
      rcases ho with ⟨d, rfl, hI⟩ | ⟨rfl, hI⟩
      · simp only [if_pos (show acc.length < 100000 by omega)]
        have := ih (k + 1) (acc ++ [d]) e (by simp; omega) (by omega) hI H'
        simpa [show k + (xs.length + 1) = k + 1 + xs.length by omega] using this
      · have := ih (k + 1) acc e (by omega) (by omega) hI H'
        simpa [show k + (xs.length + 1) = k + 1 + xs.length by omega] using this
  have := key items 0 [] env (by simp) (by simpa using hz) h0 fun j hj acc env hl h => by
    simp only [Nat.zero_add] at hl h ⊢
    exact hs j hj acc env hl h
  simpa using this
end Pi

set_option Elab.async false
set_option linter.all false
set_option maxRecDepth 100000
set_option maxHeartbeats 4000000
/-! the text of law_k21_truths_by_own_going: its defs as the interpreter has them (printed by wip/pi.py) -/
namespace Lk21
open Pi
/-- 0: is_integer(thing) -/
def b0 : List S := [.ret (.and (.isin (.var 0) [.int]) (.not (.isin (.var 0) [.bool])))]
def f0 : Fn := ⟨1, 1, [true], b0⟩
abbrev b_is_integer := b0
abbrev f_is_integer := f0
/-- 1: is_from(low, thing) -/
def b1 : List S := [.ret (.and (.call 0 [.var 1] [0]) (.cmp .ge (.var 1) (.var 0)))]
def f1 : Fn := ⟨2, 2, [true, true], b1⟩
abbrev b_is_from := b1
abbrev f_is_from := f1
/-- 2: is_below(many, thing) -/
def b2 : List S := [.ret (.and (.call 1 [.con (.int 0), .var 1] [0, 1]) (.cmp .lt (.var 1) (.var 0)))]
def f2 : Fn := ⟨2, 2, [true, true], b2⟩
abbrev b_is_below := b2
abbrev f_is_below := f2
/-- 3: is_tuple(many, thing) -/
def b3 : List S := [.ret (.and (.isin (.var 1) [.tuple]) (.or (.cmp .is (.var 0) (.con (.non))) (.cmp .eq (.bi .len [.var 1]) (.var 0))))]
def f3 : Fn := ⟨2, 2, [true, true], b3⟩
abbrev b_is_tuple := b3
abbrev f_is_tuple := f3
/-- 4: check_count(thing) -/
def b4 : List S := [.ite (.not (.call 1 [.con (.int 0), .var 0] [0, 1])) [.raise 1] []]
def f4 : Fn := ⟨1, 1, [true], b4⟩
abbrev b_check_count := b4
abbrev f_check_count := f4
/-- 5: is_number(value) -/
def b5 : List S := [.ite (.or (.not (.call 3 [.con (.int 2), .var 0] [0, 1])) (.or (.not (.call 0 [.ix (.var 0) (.con (.int 0))] [0])) (.not (.call 1 [.con (.int 1), .ix (.var 0) (.con (.int 1))] [0, 1])))) [.ret (.con (.bl false))] [], .ret (.cmp .eq (.bi .gcd [.ix (.var 0) (.con (.int 0)), .ix (.var 0) (.con (.int 1))]) (.con (.int 1)))]
def f5 : Fn := ⟨1, 1, [true], b5⟩
abbrev b_is_number := b5
abbrev f_is_number := f5
/-- 6: lowest(top, bottom) -/
def b6 : List S := [.asg (.name 2) (.ite (.cmp .gt (.var 1) (.con (.int 0))) (.bi .gcd [.var 0, .var 1]) (.neg (.bi .gcd [.var 0, .var 1]))), .ret (.tup [.bin .fdiv (.var 0) (.var 2), .bin .fdiv (.var 1) (.var 2)])]
def f6 : Fn := ⟨2, 3, [true, true], b6⟩
abbrev b_lowest := b6
abbrev f_lowest := f6
/-- 7: plus_in(one, other) -/
def b7 : List S := [.ret (.call 6 [.bin .add (.bin .mul (.ix (.var 0) (.con (.int 0))) (.ix (.var 1) (.con (.int 1)))) (.bin .mul (.ix (.var 1) (.con (.int 0))) (.ix (.var 0) (.con (.int 1)))), .bin .mul (.ix (.var 0) (.con (.int 1))) (.ix (.var 1) (.con (.int 1)))] [0, 1])]
def f7 : Fn := ⟨2, 2, [true, true], b7⟩
abbrev b_plus_in := b7
abbrev f_plus_in := f7
/-- 8: minus_in(one, other) -/
def b8 : List S := [.ret (.call 6 [.bin .sub (.bin .mul (.ix (.var 0) (.con (.int 0))) (.ix (.var 1) (.con (.int 1)))) (.bin .mul (.ix (.var 1) (.con (.int 0))) (.ix (.var 0) (.con (.int 1)))), .bin .mul (.ix (.var 0) (.con (.int 1))) (.ix (.var 1) (.con (.int 1)))] [0, 1])]
def f8 : Fn := ⟨2, 2, [true, true], b8⟩
abbrev b_minus_in := b8
abbrev f_minus_in := f8
/-- 9: over_in(one, other) -/
def b9 : List S := [.ret (.call 6 [.bin .mul (.ix (.var 0) (.con (.int 0))) (.ix (.var 1) (.con (.int 1))), .bin .mul (.ix (.var 0) (.con (.int 1))) (.ix (.var 1) (.con (.int 0)))] [0, 1])]
def f9 : Fn := ⟨2, 2, [true, true], b9⟩
abbrev b_over_in := b9
abbrev f_over_in := f9
/-- 10: in_sequence(numbers) -/
def b10 : List S := [.par [1, 2] [.uniq (.var 0), .con (.int 1)], .fo (.name 3) .seq [.var 1] [.asg (.name 2) (.bi .lcm [.var 2, .ix (.var 3) (.con (.int 1))])], .ret (.sortk (.var 1) 2)]
def f10 : Fn := ⟨1, 4, [true], b10⟩
abbrev b_in_sequence := b10
abbrev f_in_sequence := f10
/-- 11: ahead(number, other) -/
def b11 : List S := [.ret (.cmp .lt (.bin .mul (.ix (.var 0) (.con (.int 0))) (.ix (.var 1) (.con (.int 1)))) (.bin .mul (.ix (.var 1) (.con (.int 0))) (.ix (.var 0) (.con (.int 1)))))]
def f11 : Fn := ⟨2, 2, [true, true], b11⟩
abbrev b_ahead := b11
abbrev f_ahead := f11
/-- 12: check_place(names, thing) -/
def b12 : List S := [.ite (.not (.call 3 [.var 0, .var 1] [0, 1])) [.raisE 2 "index" (.neg (.con (.int 1)))] [], .fo (.tup [2, 3]) .enum [.var 1] [.ite (.not (.call 5 [.var 3] [0])) [.raisE 2 "index" (.var 2)] []]]
def f12 : Fn := ⟨2, 4, [true, true], b12⟩
abbrev b_check_place := b12
abbrev f_check_place := f12
/-- 13: is_term(names, thing) -/
def b13 : List S := [.ret (.or (.call 2 [.var 0, .var 1] [0, 1]) (.call 5 [.var 1] [0]))]
def f13 : Fn := ⟨2, 2, [true, true], b13⟩
abbrev b_is_term := b13
abbrev f_is_term := f13
/-- 14: term_worth(term, place) -/
def b14 : List S := [.ret (.ite (.isin (.var 0) [.tuple]) (.var 0) (.ix (.var 1) (.var 0)))]
def f14 : Fn := ⟨2, 2, [true, true], b14⟩
abbrev b_term_worth := b14
abbrev f_term_worth := f14
/-- 15: together(lots) -/
def b15 : List S := [.ret (.bi .tuple [.call 10 [.lc2 (.var 2) [1, 2] (.name 1) .seq [.var 0] [] (.name 2) .seq [.var 1] []] [0]])]
def f15 : Fn := ⟨1, 3, [true], b15⟩
abbrev b_together := b15
abbrev f_together := f15
/-- 16: middle_in(number, other) -/
def b16 : List S := [.ret (.call 9 [.call 7 [.var 0, .var 1] [0, 1], .tup [.con (.int 2), .con (.int 1)]] [0, 1])]
def f16 : Fn := ⟨2, 2, [true, true], b16⟩
abbrev b_middle_in := b16
abbrev f_middle_in := f16
/-- 17: candidates(constants, place) -/
def b17 : List S := [.asg (.name 2) (.call 15 [.lst [.var 0, .var 1]] [0]), .ite (.cmp .eq (.var 2) (.tup [])) [.ret (.lst [.tup [.con (.int 0), .con (.int 1)]])] [], .asg (.name 3) (.lst [.call 8 [.ix (.var 2) (.con (.int 0)), .tup [.con (.int 1), .con (.int 1)]] [0, 1]]), .fo (.tup [4, 5]) .zip [.var 2, .cut (.var 2) (.con (.int 1)) (.con .non)] [.ext 3 (.lst [.var 4, .call 16 [.var 4, .var 5] [0, 1]])], .ret (.bin .add (.var 3) (.lst [.ix (.var 2) (.neg (.con (.int 1))), .call 7 [.ix (.var 2) (.neg (.con (.int 1))), .tup [.con (.int 1), .con (.int 1)]] [0, 1]]))]
def f17 : Fn := ⟨2, 6, [true, true], b17⟩
abbrev b_candidates := b17
abbrev f_candidates := f17
/-- 18: is_formula_in(names, thing) -/
def b18 : List S := [.ite (.or (.not (.isin (.var 1) [.tuple])) (.cmp .eq (.var 1) (.tup []))) [.ret (.con (.bl false))] [], .asg (.name 2) (.ix (.var 1) (.con (.int 0))), .ite (.or (.cmp .eq (.var 2) (.con (.str "less"))) (.cmp .eq (.var 2) (.con (.str "same")))) [.ret (.and (.cmp .eq (.bi .len [.var 1]) (.con (.int 3))) (.and (.call 13 [.var 0, .ix (.var 1) (.con (.int 1))] [0, 1]) (.call 13 [.var 0, .ix (.var 1) (.con (.int 2))] [0, 1])))] [], .ite (.or (.cmp .eq (.var 2) (.con (.str "both"))) (.cmp .eq (.var 2) (.con (.str "either")))) [.ite (.or (.cmp .ne (.bi .len [.var 1]) (.con (.int 2))) (.or (.not (.call 3 [.con (.non), .ix (.var 1) (.con (.int 1))] [0, 1])) (.cmp .eq (.ix (.var 1) (.con (.int 1))) (.tup [])))) [.ret (.con (.bl false))] [], .ret (.bi .all [.lc (.call 18 [.var 0, .var 3] [0, 1]) [3] (.name 3) .seq [.ix (.var 1) (.con (.int 1))] []])] [], .ite (.cmp .eq (.var 2) (.con (.str "not"))) [.ret (.and (.cmp .eq (.bi .len [.var 1]) (.con (.int 2))) (.call 18 [.var 0, .ix (.var 1) (.con (.int 1))] [0, 1]))] [], .ite (.or (.cmp .eq (.var 2) (.con (.str "some"))) (.cmp .eq (.var 2) (.con (.str "all")))) [.ret (.and (.cmp .eq (.bi .len [.var 1]) (.con (.int 2))) (.call 18 [.bin .add (.var 0) (.con (.int 1)), .ix (.var 1) (.con (.int 1))] [0, 1]))] [], .ret (.cmp .eq (.var 1) (.glo 0))]
def f18 : Fn := ⟨2, 4, [true, true], b18⟩
abbrev b_is_formula_in := b18
abbrev f_is_formula_in := f18
/-- 19: check_formula(names, thing) -/
def b19 : List S := [.ite (.not (.call 18 [.var 0, .var 1] [0, 1])) [.raise 3] []]
def f19 : Fn := ⟨2, 2, [true, true], b19⟩
abbrev b_check_formula := b19
abbrev f_check_formula := f19
/-- 20: parts_of(formula) -/
def b20 : List S := [.ite (.or (.cmp .eq (.ix (.var 0) (.con (.int 0))) (.con (.str "both"))) (.cmp .eq (.ix (.var 0) (.con (.int 0))) (.con (.str "either")))) [.ret (.ix (.var 0) (.con (.int 1)))] [], .ret (.ite (.cmp .isin (.ix (.var 0) (.con (.int 0))) (.tup [.con (.str "not"), .con (.str "some"), .con (.str "all")])) (.cut (.var 0) (.con (.int 1)) (.con .non)) (.tup []))]
def f20 : Fn := ⟨1, 1, [true], b20⟩
abbrev b_parts_of := b20
abbrev f_parts_of := f20
/-- 21: numbers_in(formula) -/
def b21 : List S := [.asg (.name 1) (.lc (.call 21 [.var 2] [0]) [2] (.name 2) .seq [.call 20 [.var 0] [0]] []), .ite (.or (.cmp .eq (.ix (.var 0) (.con (.int 0))) (.con (.str "less"))) (.cmp .eq (.ix (.var 0) (.con (.int 0))) (.con (.str "same")))) [.app 1 (.lc (.var 2) [2] (.name 2) .seq [.cut (.var 0) (.con (.int 1)) (.con .non)] [.isin (.var 2) [.tuple]])] [], .ret (.call 15 [.var 1] [0])]
def f21 : Fn := ⟨1, 3, [true], b21⟩
abbrev b_numbers_in := b21
abbrev f_numbers_in := f21
/-- 22: true_by(constants, formula, place) -/
def b22 : List S := [.asg (.name 3) (.ix (.var 1) (.con (.int 0))), .ite (.or (.cmp .eq (.var 3) (.con (.str "less"))) (.cmp .eq (.var 3) (.con (.str "same")))) [.par [4, 5] [.call 14 [.ix (.var 1) (.con (.int 1)), .var 2] [0, 1], .call 14 [.ix (.var 1) (.con (.int 2)), .var 2] [0, 1]], .ret (.ite (.cmp .eq (.var 3) (.con (.str "less"))) (.call 11 [.var 4, .var 5] [0, 1]) (.cmp .eq (.var 4) (.var 5)))] [], .ite (.cmp .eq (.var 3) (.con (.str "not"))) [.ret (.not (.call 22 [.var 0, .ix (.var 1) (.con (.int 1)), .var 2] [0, 1, 2]))] [], .ite (.cmp .eq (.var 3) (.con (.str "both"))) [.ret (.bi .all [.lc (.call 22 [.var 0, .var 4, .var 2] [0, 1, 2]) [4] (.name 4) .seq [.ix (.var 1) (.con (.int 1))] []])] [], .ite (.cmp .eq (.var 3) (.con (.str "either"))) [.ret (.bi .any [.lc (.call 22 [.var 0, .var 4, .var 2] [0, 1, 2]) [4] (.name 4) .seq [.ix (.var 1) (.con (.int 1))] []])] [], .ite (.cmp .eq (.var 3) (.con (.str "some"))) [.ret (.bi .any [.lc (.call 22 [.var 0, .ix (.var 1) (.con (.int 1)), .bin .add (.var 2) (.tup [.var 4])] [0, 1, 2]) [4] (.name 4) .seq [.call 17 [.var 0, .var 2] [0, 1]] []])] [], .ite (.cmp .eq (.var 3) (.con (.str "all"))) [.ret (.bi .all [.lc (.call 22 [.var 0, .ix (.var 1) (.con (.int 1)), .bin .add (.var 2) (.tup [.var 4])] [0, 1, 2]) [4] (.name 4) .seq [.call 17 [.var 0, .var 2] [0, 1]] []])] [], .ret (.con (.bl true))]
def f22 : Fn := ⟨3, 6, [true, true, true], b22⟩
abbrev b_true_by := b22
abbrev f_true_by := f22
/-- 23: true_in(formula, place) -/
def b23 : List S := [.ret (.call 22 [.call 21 [.var 0] [0], .var 0, .var 1] [0, 1, 2])]
def f23 : Fn := ⟨2, 2, [true, true], b23⟩
abbrev b_true_in := b23
abbrev f_true_in := f23
/-- 24: is_true(names, formula, place) -/
def b24 : List S := [.expr (.call 4 [.var 0] [0]), .expr (.call 19 [.var 0, .var 1] [0, 1]), .expr (.call 12 [.var 0, .var 2] [0, 1]), .ret (.call 23 [.var 1, .var 2] [0, 1])]
def f24 : Fn := ⟨3, 3, [true, true, true], b24⟩
abbrev b_is_true := b24
abbrev f_is_true := f24
/-- 25: _law_pouch(script, at) -/
def b25 : List S := [.asg (.name 2) (.ite (.cmp .lt (.var 1) (.bi .len [.var 0])) (.bi .int [.bi .abs [.ix (.var 0) (.var 1)]]) (.bin .add (.bin .mul (.con (.int 23)) (.var 1)) (.con (.int 11)))), .asg (.name 2) (.bin .mod (.bi .int [.var 2]) (.bin .mul (.bin .mul (.bin .mul (.bin .pow (.con (.int 10)) (.con (.int 60))) (.bin .pow (.con (.int 10)) (.con (.int 60)))) (.bin .pow (.con (.int 10)) (.con (.int 60)))) (.bin .pow (.con (.int 10)) (.con (.int 60))))), .ret (.lst [.var 2, .bi .int [.cmp .ge (.var 2) (.bin .pow (.con (.int 10)) (.con (.int 18)))], .bin .mul (.con (.int 13)) (.var 1)])]
def f25 : Fn := ⟨2, 3, [true, true], b25⟩
abbrev b_l_pouch := b25
abbrev f_l_pouch := f25
/-- 26: _law_scoop(pouch, many) -/
def b26 : List S := [.set 0 (.con (.int 2)) (.bin .add (.ix (.var 0) (.con (.int 2))) (.con (.int 1))), .ite (.and (.cmp .eq (.ix (.var 0) (.con (.int 1))) (.con (.int 1))) (.cmp .gt (.ix (.var 0) (.con (.int 0))) (.con (.int 0)))) [.asg (.name 2) (.bin .mod (.bi .int [.ix (.var 0) (.con (.int 0))]) (.var 1)), .set 0 (.con (.int 0)) (.bin .fdiv (.ix (.var 0) (.con (.int 0))) (.var 1)), .ret (.var 2)] [], .asg (.name 3) (.bin .mod (.bi .int [.bin .add (.bin .mul (.bin .add (.bin .add (.ix (.var 0) (.con (.int 0))) (.bin .mul (.con (.int 6997)) (.ix (.var 0) (.con (.int 2))))) (.con (.int 5))) (.con (.int 69997))) (.con (.int 31))]) (.con (.int 2147483629))), .asg (.name 3) (.bin .mod (.bi .int [.bin .add (.bin .mul (.var 3) (.var 3)) (.bin .mul (.con (.int 17)) (.ix (.var 0) (.con (.int 2))))]) (.con (.int 2147483579))), .asg (.name 3) (.bin .mod (.bi .int [.bin .add (.bin .mul (.bin .add (.bin .add (.var 3) (.ix (.var 0) (.con (.int 0)))) (.bin .mul (.con (.int 3)) (.ix (.var 0) (.con (.int 2))))) (.con (.int 48611))) (.con (.int 29))]) (.con (.int 2147483563))), .ret (.bin .mod (.bi .int [.bin .fdiv (.var 3) (.con (.int 13))]) (.var 1))]
def f26 : Fn := ⟨2, 4, [true, true], b26⟩
abbrev b_l_scoop := b26
abbrev f_l_scoop := f26
/-- 27: _law_pick(pouch, rows) -/
def b27 : List S := [.ret (.ix (.var 1) (.call 26 [.var 0, .bi .len [.var 1]] [0, 1]))]
def f27 : Fn := ⟨2, 2, [true, true], b27⟩
abbrev b_l_pick := b27
abbrev f_l_pick := f27
/-- 28: _law_same(found, due) -/
def b28 : List S := [.ite (.or (.isin (.var 1) [.tuple]) (.isin (.var 1) [.list])) [.ite (.or (.cmp .ne (.isin (.var 1) [.tuple]) (.isin (.var 0) [.tuple])) (.cmp .ne (.isin (.var 1) [.list]) (.isin (.var 0) [.list]))) [.ret (.con (.bl false))] [], .ret (.and (.cmp .eq (.bi .len [.var 0]) (.bi .len [.var 1])) (.bi .all [.lc (.call 28 [.ix (.var 0) (.var 2), .ix (.var 1) (.var 2)] [0, 1]) [2] (.name 2) .range [.bi .len [.var 1]] []]))] [], .ite (.cmp .is (.var 1) (.con (.non))) [.ret (.cmp .is (.var 0) (.con (.non)))] [], .ite (.isin (.var 1) [.bool]) [.ret (.and (.isin (.var 0) [.bool]) (.cmp .eq (.var 0) (.var 1)))] [], .ite (.isin (.var 1) [.str]) [.ret (.and (.isin (.var 0) [.str]) (.cmp .eq (.var 0) (.var 1)))] [], .ret (.and (.isin (.var 0) [.int]) (.and (.not (.isin (.var 0) [.bool])) (.cmp .eq (.var 0) (.var 1))))]
def f28 : Fn := ⟨2, 3, [true, true], b28⟩
abbrev b_l_same := b28
abbrev f_l_same := f28
/-- 29: _law_low(top, bottom) -/
def b29 : List S := [.par [2, 3] [.bi .abs [.var 0], .var 1], .whl (.cmp .gt (.var 3) (.con (.int 0))) [.par [2, 3] [.var 3, .bin .mod (.bi .int [.var 2]) (.var 3)]], .ret (.tup [.bin .fdiv (.var 0) (.var 2), .bin .fdiv (.var 1) (.var 2)])]
def f29 : Fn := ⟨2, 4, [true, true], b29⟩
abbrev b_l_low := b29
abbrev f_l_low := f29
/-- 30: _law_ahead(one, other) -/
def b30 : List S := [.ret (.cmp .lt (.bin .mul (.ix (.var 0) (.con (.int 0))) (.ix (.var 1) (.con (.int 1)))) (.bin .mul (.ix (.var 1) (.con (.int 0))) (.ix (.var 0) (.con (.int 1)))))]
def f30 : Fn := ⟨2, 2, [true, true], b30⟩
abbrev b_l_ahead := b30
abbrev f_l_ahead := f30
/-- 31: _law_sorted(numbers) -/
def b31 : List S := [.asg (.name 1) (.lst []), .fo (.name 2) .seq [.var 0] [.ite (.cmp .notin (.var 2) (.var 1)) [.asg (.name 3) (.bi .len [.lc (.var 4) [4] (.name 4) .seq [.var 1] [.call 30 [.var 4, .var 2] [0, 1]]]), .asg (.name 1) (.bin .add (.bin .add (.cut (.var 1) (.con .non) (.var 3)) (.lst [.var 2])) (.cut (.var 1) (.var 3) (.con .non)))] []], .ret (.var 1)]
def f31 : Fn := ⟨1, 5, [true], b31⟩
abbrev b_l_sorted := b31
abbrev f_l_sorted := f31
/-- 32: _law_number(pouch) -/
def b32 : List S := [.par [1, 2] [.call 26 [.var 0, .con (.int 8)] [0, 1], .bin .sub (.call 26 [.var 0, .con (.int 9)] [0, 1]) (.con (.int 4))], .ite (.cmp .lt (.var 1) (.con (.int 4))) [.ret (.tup [.var 2, .con (.int 1)])] [], .ite (.cmp .lt (.var 1) (.con (.int 6))) [.ret (.call 29 [.bin .add (.bin .mul (.var 2) (.con (.int 2))) (.con (.int 1)), .bin .add (.con (.int 1)) (.call 26 [.var 0, .con (.int 5)] [0, 1])] [0, 1])] [], .asg (.name 3) (.bin .mul (.bin .pow (.con (.int 10)) (.con (.int 30))) (.bin .sub (.con (.int 1)) (.bin .mul (.con (.int 2)) (.call 26 [.var 0, .con (.int 2)] [0, 1])))), .ret (.ite (.cmp .eq (.var 1) (.con (.int 6))) (.tup [.bin .add (.var 3) (.var 2), .con (.int 1)]) (.call 29 [.bin .add (.var 3) (.var 2), .con (.int 3)] [0, 1]))]
def f32 : Fn := ⟨1, 4, [true], b32⟩
abbrev b_l_number := b32
abbrev f_l_number := f32
/-- 33: _law_constants(pouch, many) -/
def b33 : List S := [.ret (.bi .tuple [.call 31 [.lc (.call 32 [.var 0] [0]) [2] (.name 2) .range [.call 26 [.var 0, .bin .add (.var 1) (.con (.int 1))] [0, 1]] []] [0]])]
def f33 : Fn := ⟨2, 3, [true, true], b33⟩
abbrev b_l_constants := b33
abbrev f_l_constants := f33
/-- 34: _law_term(pouch, names, constants) -/
def b34 : List S := [.asg (.name 3) (.bin .add (.bin .add (.rng false [.var 1]) (.rng false [.var 1])) (.bi .list [.var 2])), .ret (.ite (.cmp .ne (.var 3) (.lst [])) (.call 27 [.var 0, .var 3] [0, 1]) (.tup [.con (.int 0), .con (.int 1)]))]
def f34 : Fn := ⟨3, 4, [true, true, true], b34⟩
abbrev b_l_term := b34
abbrev f_l_term := f34
/-- 35: _law_formula(pouch, names, constants, most, deep) -/
def b35 : List S := [.asg (.name 5) (.call 26 [.var 0, .ite (.cmp .lt (.var 3) (.con (.int 2))) (.con (.int 2)) (.con (.int 9))] [0, 1]), .ite (.cmp .lt (.var 5) (.con (.int 2))) [.ret (.tup [.ix (.lst [.con (.str "less"), .con (.str "same")]) (.var 5), .call 34 [.var 0, .var 1, .var 2] [0, 1, 2], .call 34 [.var 0, .var 1, .var 2] [0, 1, 2]])] [], .ite (.cmp .eq (.var 5) (.con (.int 2))) [.ret (.ite (.cmp .eq (.call 26 [.var 0, .con (.int 3)] [0, 1]) (.con (.int 0))) (.tup [.con (.str "yes")]) (.tup [.con (.str "less"), .call 34 [.var 0, .var 1, .var 2] [0, 1, 2], .call 34 [.var 0, .var 1, .var 2] [0, 1, 2]]))] [], .ite (.cmp .eq (.var 5) (.con (.int 3))) [.ret (.tup [.con (.str "not"), .call 35 [.var 0, .var 1, .var 2, .bin .sub (.var 3) (.con (.int 1)), .var 4] [0, 1, 2, 3, 4]])] [], .ite (.and (.cmp .lt (.var 5) (.con (.int 6))) (.cmp .gt (.var 4) (.con (.int 0)))) [.ret (.tup [.ix (.lst [.con (.str "some"), .con (.str "all")]) (.bin .sub (.var 5) (.con (.int 4))), .call 35 [.var 0, .bin .add (.var 1) (.con (.int 1)), .var 2, .bin .sub (.var 3) (.con (.int 1)), .bin .sub (.var 4) (.con (.int 1))] [0, 1, 2, 3, 4]])] [], .par [6, 7] [.lst [], .bin .sub (.var 3) (.con (.int 1))], .fo (.name 8) .range [.bin .add (.con (.int 1)) (.call 26 [.var 0, .con (.int 3)] [0, 1])] [.ite (.cmp .gt (.var 7) (.con (.int 0))) [.app 6 (.call 35 [.var 0, .var 1, .var 2, .var 7, .var 4] [0, 1, 2, 3, 4]), .asg (.name 7) (.bin .sub (.var 7) (.call 36 [.ix (.var 6) (.neg (.con (.int 1)))] [0]))] []], .ret (.tup [.ix (.lst [.con (.str "both"), .con (.str "either")]) (.bin .mod (.bi .int [.var 5]) (.con (.int 2))), .bi .tuple [.var 6]])]
def f35 : Fn := ⟨5, 9, [true, true, true, true, true], b35⟩
abbrev b_l_formula := b35
abbrev f_l_formula := f35
/-- 36: _law_weight(formula) -/
def b36 : List S := [.ite (.cmp .isin (.ix (.var 0) (.con (.int 0))) (.tup [.con (.str "both"), .con (.str "either")])) [.ret (.bin .add (.con (.int 1)) (.bi .sum [.lc (.call 36 [.var 1] [0]) [1] (.name 1) .seq [.ix (.var 0) (.con (.int 1))] []]))] [], .ret (.ite (.cmp .isin (.ix (.var 0) (.con (.int 0))) (.tup [.con (.str "not"), .con (.str "some"), .con (.str "all")])) (.bin .add (.con (.int 1)) (.call 36 [.ix (.var 0) (.con (.int 1))] [0])) (.con (.int 1)))]
def f36 : Fn := ⟨1, 2, [true], b36⟩
abbrev b_l_weight := b36
abbrev f_l_weight := f36
/-- 37: _law_numbers(formula) -/
def b37 : List S := [.ite (.cmp .isin (.ix (.var 0) (.con (.int 0))) (.tup [.con (.str "both"), .con (.str "either")])) [.asg (.name 1) (.lst []), .fo (.name 2) .seq [.ix (.var 0) (.con (.int 1))] [.asg (.name 1) (.bin .add (.var 1) (.bi .list [.call 37 [.var 2] [0]]))], .ret (.bi .tuple [.call 31 [.var 1] [0]])] [], .ite (.cmp .isin (.ix (.var 0) (.con (.int 0))) (.tup [.con (.str "not"), .con (.str "some"), .con (.str "all")])) [.ret (.call 37 [.ix (.var 0) (.con (.int 1))] [0])] [], .ret (.bi .tuple [.call 31 [.lc (.var 2) [2] (.name 2) .seq [.cut (.var 0) (.con (.int 1)) (.con .non)] [.isin (.var 2) [.tuple]]] [0]])]
def f37 : Fn := ⟨1, 3, [true], b37⟩
abbrev b_l_numbers := b37
abbrev f_l_numbers := f37
/-- 38: _law_true(constants, formula, place) -/
def b38 : List S := [.asg (.name 3) (.ix (.var 1) (.con (.int 0))), .ite (.cmp .eq (.var 3) (.con (.str "yes"))) [.ret (.con (.bl true))] [], .ite (.cmp .isin (.var 3) (.tup [.con (.str "less"), .con (.str "same")])) [.asg (.tup [4, 5]) (.lc (.ite (.isin (.var 8) [.tuple]) (.var 8) (.ix (.var 2) (.var 8))) [8] (.name 8) .seq [.cut (.var 1) (.con (.int 1)) (.con .non)] []), .ret (.ite (.cmp .eq (.var 3) (.con (.str "same"))) (.cmp .eq (.var 4) (.var 5)) (.call 30 [.var 4, .var 5] [0, 1]))] [], .ite (.cmp .eq (.var 3) (.con (.str "not"))) [.ret (.not (.call 38 [.var 0, .ix (.var 1) (.con (.int 1)), .var 2] [0, 1, 2]))] [], .ite (.cmp .isin (.var 3) (.tup [.con (.str "both"), .con (.str "either")])) [.asg (.name 6) (.lc (.call 38 [.var 0, .var 4, .var 2] [0, 1, 2]) [4] (.name 4) .seq [.ix (.var 1) (.con (.int 1))] []), .ret (.ite (.cmp .eq (.var 3) (.con (.str "both"))) (.not (.cmp .isin (.con (.bl false)) (.var 6))) (.cmp .isin (.con (.bl true)) (.var 6)))] [], .asg (.name 7) (.call 39 [.bi .tuple [.call 31 [.bin .add (.bi .list [.var 0]) (.bi .list [.var 2])] [0]], .con (.int 1)] [0, 1]), .asg (.name 6) (.lc (.call 38 [.var 0, .ix (.var 1) (.con (.int 1)), .bin .add (.var 2) (.tup [.var 9])] [0, 1, 2]) [9] (.name 9) .seq [.var 7] []), .ret (.ite (.cmp .eq (.var 3) (.con (.str "some"))) (.cmp .isin (.con (.bl true)) (.var 6)) (.not (.cmp .isin (.con (.bl false)) (.var 6))))]
def f38 : Fn := ⟨3, 10, [true, true, true], b38⟩
abbrev b_l_true := b38
abbrev f_l_true := f38
/-- 39: _law_row(constants, many) -/
def b39 : List S := [.ite (.cmp .eq (.var 0) (.tup [])) [.ret (.lc (.tup [.var 5, .con (.int 1)]) [5] (.name 5) .range [.var 1] [])] [], .par [2, 3] [.ix (.var 0) (.con (.int 0)), .ix (.var 0) (.neg (.con (.int 1)))], .asg (.name 4) (.lc (.call 29 [.bin .sub (.ix (.var 2) (.con (.int 0))) (.bin .mul (.bin .sub (.var 1) (.var 5)) (.ix (.var 2) (.con (.int 1)))), .ix (.var 2) (.con (.int 1))] [0, 1]) [5] (.name 5) .range [.var 1] []), .fo (.name 5) .range [.bi .len [.var 0]] [.app 4 (.ix (.var 0) (.var 5)), .ite (.cmp .lt (.bin .add (.var 5) (.con (.int 1))) (.bi .len [.var 0])) [.par [6, 7] [.ix (.var 0) (.var 5), .ix (.var 0) (.bin .add (.var 5) (.con (.int 1)))], .asg (.name 8) (.bin .sub (.bin .mul (.ix (.var 7) (.con (.int 0))) (.ix (.var 6) (.con (.int 1)))) (.bin .mul (.ix (.var 6) (.con (.int 0))) (.ix (.var 7) (.con (.int 1))))), .fo (.name 9) .range [.con (.int 1), .bin .add (.var 1) (.con (.int 1))] [.app 4 (.call 29 [.bin .add (.bin .mul (.bin .mul (.ix (.var 6) (.con (.int 0))) (.ix (.var 7) (.con (.int 1)))) (.bin .add (.var 1) (.con (.int 1)))) (.bin .mul (.var 8) (.var 9)), .bin .mul (.bin .mul (.ix (.var 6) (.con (.int 1))) (.ix (.var 7) (.con (.int 1)))) (.bin .add (.var 1) (.con (.int 1)))] [0, 1])]] []], .ret (.bin .add (.var 4) (.lc (.call 29 [.bin .add (.ix (.var 3) (.con (.int 0))) (.bin .mul (.bin .add (.var 5) (.con (.int 1))) (.ix (.var 3) (.con (.int 1)))), .ix (.var 3) (.con (.int 1))] [0, 1]) [5] (.name 5) .range [.var 1] []))]
def f39 : Fn := ⟨2, 10, [true, true], b39⟩
abbrev b_l_row := b39
abbrev f_l_row := f39
/-- 40: _law_places(row, names) -/
def b40 : List S := [.asg (.name 2) (.lst [.tup []]), .fo (.name 3) .range [.var 1] [.asg (.name 4) (.lst []), .fo (.name 5) .seq [.var 2] [.ext 4 (.lc (.bin .add (.var 5) (.tup [.var 6])) [6] (.name 6) .seq [.var 0] [])], .asg (.name 2) (.var 4)], .ret (.var 2)]
def f40 : Fn := ⟨2, 7, [true, true], b40⟩
abbrev b_l_places := b40
abbrev f_l_places := f40
/-- 41: _law_refused(names, formula, place) -/
def b41 : List S := [.asg (.name 3) (.tup [.con (.str ""), .con (.non)]), .tr [.expr (.call 24 [.var 0, .var 1, .var 2] [0, 1, 2])] [(1, none, [.asg 3 (.tup [.con (.str "count"), .con (.non)])]), (3, none, [.asg 3 (.tup [.con (.str "formula"), .con (.non)])]), (2, some 4, [.asg 3 (.tup [.con (.str "place"), .fld "index"])])], .ret (.var 3)]
def f41 : Fn := ⟨3, 5, [true, true, true], b41⟩
abbrev b_l_refused := b41
abbrev f_l_refused := f41
/-- 42: law(script) -/
def b42 : List S := [.fo (.name 1) .range [.con (.int 3)] [.asg (.name 2) (.call 25 [.var 0, .var 1] [0, 1]), .asg (.name 3) (.call 26 [.var 2, .con (.int 3)] [0, 1]), .fo (.name 4) .range [.con (.int 3)] [.asg (.name 5) (.call 35 [.var 2, .var 3, .call 33 [.var 2, .con (.int 2)] [0, 1], .con (.int 8), .con (.int 2)] [0, 1, 2, 3, 4]), .asg (.name 6) (.call 37 [.var 5] [0]), .asg (.name 7) (.cut (.call 40 [.call 39 [.var 6, .var 3] [0, 1], .var 3] [0, 1]) (.con .non) (.con (.int 25))), .fo (.name 8) .range [.con (.int 4)] [.asg (.name 7) (.bin .add (.var 7) (.lst [.bi .tuple [.lc (.call 32 [.var 2] [0]) [16] (.name 16) .range [.var 3] []]]))], .fo (.name 9) .seq [.var 7] [.ite (.not (.call 28 [.call 24 [.var 3, .var 5, .var 9] [0, 1, 2], .call 38 [.var 6, .var 5, .var 9] [0, 1, 2]] [0, 1])) [.ret (.con (.bl false))] []], .asg (.name 9) (.ix (.var 7) (.neg (.con (.int 1)))), .ite (.not (.call 28 [.call 24 [.var 9, .var 3, .tup [.con (.str "not"), .var 5]] [1, 2, 0], .not (.call 38 [.var 6, .var 5, .var 9] [0, 1, 2])] [0, 1])) [.ret (.con (.bl false))] []], .asg (.tup [10, 11]) (.call 27 [.var 2, .lst [.tup [.con (.int 1), .con (.int 30)], .tup [.con (.int 2), .con (.int 20)], .tup [.con (.int 3), .con (.int 7)], .tup [.con (.int 4), .con (.int 2)], .tup [.con (.int 5), .con (.int 1)], .tup [.con (.int 6), .con (.int 0)]]] [0, 1]), .asg (.name 6) (.call 33 [.var 2, .var 11] [0, 1]), .asg (.name 12) (.tup [.con (.str "either"), .bi .tuple [.lc (.tup [.con (.str "both"), .bi .tuple [.lc (.call 35 [.var 2, .var 10, .var 6, .con (.int 4), .con (.int 0)] [0, 1, 2, 3, 4]) [4] (.name 4) .range [.con (.int 2)] []]]) [17] (.name 17) .range [.con (.int 4)] []]]), .fo (.name 4) .range [.con (.int 6)] [.asg (.name 13) (.bi .tuple [.lc (.call 27 [.var 2, .bin .add (.bi .list [.var 6]) (.bin .mul (.lst [.call 32 [.var 2] [0]]) (.con (.int 3)))] [0, 1]) [16] (.name 16) .range [.var 10] []]), .ite (.not (.call 28 [.call 24 [.var 10, .var 12, .var 13] [0, 1, 2], .call 38 [.tup [], .var 12, .var 13] [0, 1, 2]] [0, 1])) [.ret (.con (.bl false))] []], .asg (.name 14) (.call 27 [.var 2, .lst [.con (.non), .tup [.con (.str "less"), .var 3, .tup [.con (.int 0), .con (.int 1)]], .tup [.con (.str "yes"), .con (.int 0)], .tup [.con (.str "both"), .tup []], .lst [.con (.str "yes")], .tup [.con (.str "some"), .tup [.con (.str "same"), .bin .add (.var 3) (.con (.int 1)), .con (.int 0)]]]] [0, 1]), .asg (.name 15) (.lst [.call 41 [.neg (.con (.int 1)), .var 14, .con (.non)] [0, 1, 2], .call 41 [.var 3, .var 14, .con (.non)] [0, 1, 2], .call 41 [.var 3, .var 5, .bi .list [.var 9]] [0, 1, 2]]), .ite (.or (.cmp .ne (.var 15) (.lst [.tup [.con (.str "count"), .con (.non)], .tup [.con (.str "formula"), .con (.non)], .tup [.con (.str "place"), .neg (.con (.int 1))]])) (.cmp .ne (.call 41 [.var 3, .var 5, .bin .add (.var 9) (.tup [.tup [.con (.int 1), .con (.int 1)]])] [0, 1, 2]) (.tup [.con (.str "place"), .neg (.con (.int 1))]))) [.ret (.con (.bl false))] [], .ite (.and (.cmp .gt (.var 3) (.con (.int 0))) (.cmp .ne (.call 41 [.var 3, .var 5, .bin .add (.tup [.tup [.con (.int 2), .con (.int 2)]]) (.cut (.var 9) (.con (.int 1)) (.con .non))] [0, 1, 2]) (.tup [.con (.str "place"), .con (.int 0)]))) [.ret (.con (.bl false))] []], .ret (.con (.bl true))]
def f42 : Fn := ⟨1, 18, [true], b42⟩
abbrev b_law := b42
abbrev f_law := f42
def P : Pg := ⟨[f0, f1, f2, f3, f4, f5, f6, f7, f8, f9, f10, f11, f12, f13, f14, f15, f16, f17, f18, f19, f20, f21, f22, f23, f24, f25, f26, f27, f28, f29, f30, f31, f32, f33, f34, f35, f36, f37, f38, f39, f40, f41, f42], [.tup [(.str "yes")]], [[true, false, false, false], [true, true, false, false], [true, false, true, false], [true, false, false, true]], []⟩
theorem g0 : P.G[0]? = some f0 := rfl
theorem g_is_integer : P.G[0]? = some f_is_integer := rfl
theorem g1 : P.G[1]? = some f1 := rfl
theorem g_is_from : P.G[1]? = some f_is_from := rfl
theorem g2 : P.G[2]? = some f2 := rfl
theorem g_is_below : P.G[2]? = some f_is_below := rfl
theorem g3 : P.G[3]? = some f3 := rfl
theorem g_is_tuple : P.G[3]? = some f_is_tuple := rfl
theorem g4 : P.G[4]? = some f4 := rfl
theorem g_check_count : P.G[4]? = some f_check_count := rfl
theorem g5 : P.G[5]? = some f5 := rfl
theorem g_is_number : P.G[5]? = some f_is_number := rfl
theorem g6 : P.G[6]? = some f6 := rfl
theorem g_lowest : P.G[6]? = some f_lowest := rfl
theorem g7 : P.G[7]? = some f7 := rfl
theorem g_plus_in : P.G[7]? = some f_plus_in := rfl
theorem g8 : P.G[8]? = some f8 := rfl
theorem g_minus_in : P.G[8]? = some f_minus_in := rfl
theorem g9 : P.G[9]? = some f9 := rfl
theorem g_over_in : P.G[9]? = some f_over_in := rfl
theorem g10 : P.G[10]? = some f10 := rfl
theorem g_in_sequence : P.G[10]? = some f_in_sequence := rfl
theorem g11 : P.G[11]? = some f11 := rfl
theorem g_ahead : P.G[11]? = some f_ahead := rfl
theorem g12 : P.G[12]? = some f12 := rfl
theorem g_check_place : P.G[12]? = some f_check_place := rfl
theorem g13 : P.G[13]? = some f13 := rfl
theorem g_is_term : P.G[13]? = some f_is_term := rfl
theorem g14 : P.G[14]? = some f14 := rfl
theorem g_term_worth : P.G[14]? = some f_term_worth := rfl
theorem g15 : P.G[15]? = some f15 := rfl
theorem g_together : P.G[15]? = some f_together := rfl
theorem g16 : P.G[16]? = some f16 := rfl
theorem g_middle_in : P.G[16]? = some f_middle_in := rfl
theorem g17 : P.G[17]? = some f17 := rfl
theorem g_candidates : P.G[17]? = some f_candidates := rfl
theorem g18 : P.G[18]? = some f18 := rfl
theorem g_is_formula_in : P.G[18]? = some f_is_formula_in := rfl
theorem g19 : P.G[19]? = some f19 := rfl
theorem g_check_formula : P.G[19]? = some f_check_formula := rfl
theorem g20 : P.G[20]? = some f20 := rfl
theorem g_parts_of : P.G[20]? = some f_parts_of := rfl
theorem g21 : P.G[21]? = some f21 := rfl
theorem g_numbers_in : P.G[21]? = some f_numbers_in := rfl
theorem g22 : P.G[22]? = some f22 := rfl
theorem g_true_by : P.G[22]? = some f_true_by := rfl
theorem g23 : P.G[23]? = some f23 := rfl
theorem g_true_in : P.G[23]? = some f_true_in := rfl
theorem g24 : P.G[24]? = some f24 := rfl
theorem g_is_true : P.G[24]? = some f_is_true := rfl
theorem g25 : P.G[25]? = some f25 := rfl
theorem g_l_pouch : P.G[25]? = some f_l_pouch := rfl
theorem g26 : P.G[26]? = some f26 := rfl
theorem g_l_scoop : P.G[26]? = some f_l_scoop := rfl
theorem g27 : P.G[27]? = some f27 := rfl
theorem g_l_pick : P.G[27]? = some f_l_pick := rfl
theorem g28 : P.G[28]? = some f28 := rfl
theorem g_l_same : P.G[28]? = some f_l_same := rfl
theorem g29 : P.G[29]? = some f29 := rfl
theorem g_l_low : P.G[29]? = some f_l_low := rfl
theorem g30 : P.G[30]? = some f30 := rfl
theorem g_l_ahead : P.G[30]? = some f_l_ahead := rfl
theorem g31 : P.G[31]? = some f31 := rfl
theorem g_l_sorted : P.G[31]? = some f_l_sorted := rfl
theorem g32 : P.G[32]? = some f32 := rfl
theorem g_l_number : P.G[32]? = some f_l_number := rfl
theorem g33 : P.G[33]? = some f33 := rfl
theorem g_l_constants : P.G[33]? = some f_l_constants := rfl
theorem g34 : P.G[34]? = some f34 := rfl
theorem g_l_term : P.G[34]? = some f_l_term := rfl
theorem g35 : P.G[35]? = some f35 := rfl
theorem g_l_formula : P.G[35]? = some f_l_formula := rfl
theorem g36 : P.G[36]? = some f36 := rfl
theorem g_l_weight : P.G[36]? = some f_l_weight := rfl
theorem g37 : P.G[37]? = some f37 := rfl
theorem g_l_numbers : P.G[37]? = some f_l_numbers := rfl
theorem g38 : P.G[38]? = some f38 := rfl
theorem g_l_true : P.G[38]? = some f_l_true := rfl
theorem g39 : P.G[39]? = some f39 := rfl
theorem g_l_row : P.G[39]? = some f_l_row := rfl
theorem g40 : P.G[40]? = some f40 := rfl
theorem g_l_places : P.G[40]? = some f_l_places := rfl
theorem g41 : P.G[41]? = some f41 := rfl
theorem g_l_refused : P.G[41]? = some f_l_refused := rfl
theorem g42 : P.G[42]? = some f42 := rfl
theorem g_law : P.G[42]? = some f_law := rfl
end Lk21

set_option Elab.async false
set_option linter.all false
set_option maxRecDepth 100000
set_option maxHeartbeats 4000000
namespace Vk21
open Pi Lk21
theorem c_is_integer (n : Nat) (d : D) : callF P (n + 1) 0 [.sh d] = .ok (.bl (tyD d .int && !tyD d .bool)) false [.sh d] := by
  cases d <;> rfl
theorem c_is_from (n : Nat) (lo : Int) (d : D) : callF P (n + 2) 1 [.sh (.int lo), .sh d] = .ok (.bl (match d with | .int i => decide (lo ≤ i) | _ => false)) false [.sh (.int lo), .sh d] := by
  cases d <;> rfl
theorem c_is_tuple (n : Nat) (m : Int) (d : D) : callF P (n + 1) 3 [.sh (.int m), .sh d] = .ok (.bl (match d with | .tup xs => decide ((xs.length : Int) = m) | _ => false)) false [.sh (.int m), .sh d] := by
  cases d <;> rfl
theorem c_is_tupleN (n : Nat) (d : D) : callF P (n + 1) 3 [.sh .non, .sh d] = .ok (.bl (match d with | .tup xs => true | _ => false)) false [.sh .non, .sh d] := by
  cases d <;> rfl
theorem c_is_below (n : Nat) (m : Int) (d : D) : callF P (n + 3) 2 [.sh (.int m), .sh d] = .ok (.bl (match d with | .int i => decide (0 ≤ i) && decide (i < m) | _ => false)) false [.sh (.int m), .sh d] := by
  cases d <;> first | rfl | skip
  rename_i i
  rw [callF_of g_is_below rfl rfl]
  by_cases h : 0 ≤ i <;> simp [f_is_below, b_is_below, f2, b2, f2, b2, execs, exec, eval, argOf, Arg.peek, pureR, args, peeks, outF, doCall, takes, gives, lib_bor g_is_from, f_is_from, f1, f1, c_is_from, h]
theorem c_is_number (n : Nat) (d : D) : callF P (n + 3) 5 [.sh d] = .ok (.bl (isNum d)) false [.sh d] := by
  cases d with
  | tup xs =>
    rcases xs with _ | ⟨x, _ | ⟨y, _ | ⟨z, r⟩⟩⟩
    · rfl
    · cases x <;> rfl
    · cases x <;> cases y <;> first | rfl | skip
      rename_i a b
      rw [callF_of g_is_number rfl rfl]
      by_cases hb : 1 ≤ b <;> simp [f_is_number, b_is_number, f5, b5, execs, exec, eval, argOf, Arg.peek, pureR, args, peeks, outF, Tg.store, evals, doCall, takes, gives, lib_bor g_is_integer, f_is_integer, f0, lib_bor g_is_from, f_is_from, f1, lib_bor g_is_tuple, f_is_tuple, f3, f_is_integer, f_is_from, f_is_tuple, c_is_integer, c_is_from, c_is_tuple, tyD, isNum, hb]
    · rw [callF_of g_is_number rfl rfl]
      have : ¬ ((r.length : Int) + 1 + 1 + 1 = 2) := by omega
      simp [f_is_number, b_is_number, f5, b5, execs, exec, eval, argOf, Arg.peek, pureR, args, peeks, outF, Tg.store, evals, doCall, takes, gives, lib_bor g_is_integer, f_is_integer, f0, lib_bor g_is_from, f_is_from, f1, lib_bor g_is_tuple, f_is_tuple, f3, f_is_integer, f_is_from, f_is_tuple, c_is_integer, c_is_from, c_is_tuple, tyD, isNum, this]
  | _ => rfl
theorem c_ahead (n : Nat) (a b c d : Int) (h1 : mulOk a d) (h2 : mulOk c b) : callF P (n + 1) 11 [.sh (num a b), .sh (num c d)] = .ok (.bl (decide (a * d < c * b))) false [.sh (num a b), .sh (num c d)] := by
  rw [callF_of g_ahead rfl rfl]
  simp [f_ahead, b_ahead, f11, b11, execs, exec, eval, argOf, Arg.peek, pureR, args, peeks, outF, h1, h2]
end Vk21


set_option Elab.async false
set_option linter.all false
set_option maxRecDepth 100000
set_option maxHeartbeats 4000000
namespace Vk21
open Pi Lk21
theorem c_l_pouch (n : Nat) (ns : List Int) (k : Nat) (hk : k < 3) : ∃ c fl, 0 ≤ c ∧ c < big ∧ callF P (n + 1) 25 [.sh (.lst (ns.map D.int)), .sh (.int k)] = .ok (pou c fl (13 * k)) true [.sh (.lst (ns.map D.int)), .sh (.int k)] := by
  have m1 : mulOk (10 ^ 60) (10 ^ 60) := by decide +kernel
  have m2 : mulOk (10 ^ 60 * 10 ^ 60) (10 ^ 60) := by decide +kernel
  have m3 : mulOk (10 ^ 60 * 10 ^ 60 * 10 ^ 60) (10 ^ 60) := by decide +kernel
  have m4 : mulOk 23 (k : Int) := mulOk_of 5 5 (by decide) (by omega) (by decide)
  have m5 : mulOk 13 (k : Int) := mulOk_of 5 5 (by decide) (by omega) (by decide)
  have p1 : opD .pow (.int 10) (.int 60) = some (.int (10 ^ 60), false) := opD_pow (by decide)
  have p2 : opD .pow (.int 10) (.int 18) = some (.int (10 ^ 18), false) := opD_pow (by decide)
  have hb : (10 ^ 60 * 10 ^ 60 * 10 ^ 60 * 10 ^ 60 : Int) = big := by decide +kernel
  have hp : (0 : Int) < big := by decide +kernel
  have e1 : opD .mul (.int (10 ^ 60)) (.int (10 ^ 60)) = some (.int (10 ^ 60 * 10 ^ 60), false) := opD_mul m1
  have e2 : opD .mul (.int (10 ^ 60 * 10 ^ 60)) (.int (10 ^ 60)) = some (.int (10 ^ 60 * 10 ^ 60 * 10 ^ 60), false) := opD_mul m2
  have e3 : opD .mul (.int (10 ^ 60 * 10 ^ 60 * 10 ^ 60)) (.int (10 ^ 60)) = some (.int big, false) := by rw [opD_mul m3, hb]
  generalize hG : (10 ^ 60 : Int) = G at *
  generalize hG2 : G * G = G2 at *
  generalize hG3 : G2 * G = G3 at *
  generalize hG18 : (10 ^ 18 : Int) = G18 at *
  by_cases hl : k < ns.length
  · refine ⟨(if ns[k] < 0 then -ns[k] else ns[k]) % big, if G18 ≤ (if ns[k] < 0 then -ns[k] else ns[k]) % big then 1 else 0, Int.emod_nonneg _ (by omega), Int.emod_lt_of_pos _ hp, ?_⟩
    have hl2 : (k : Int) < ns.length := by omega
    rw [callF_of g_l_pouch rfl rfl]
    simp [f_l_pouch, b_l_pouch, f25, b25, execs, exec, eval, evals, argOf, Arg.peek, pureR, args, peeks, outF, Tg.store, p1, p2, e1, e2, e3, hp, m4, m5, hl, hl2]
  · refine ⟨(23 * (k : Int) + 11) % big, if G18 ≤ (23 * (k : Int) + 11) % big then 1 else 0, Int.emod_nonneg _ (by omega), Int.emod_lt_of_pos _ hp, ?_⟩
    have hl2 : ¬ (k : Int) < ns.length := by omega
    rw [callF_of g_l_pouch rfl rfl]
    simp [f_l_pouch, b_l_pouch, f25, b25, execs, exec, eval, evals, argOf, Arg.peek, pureR, args, peeks, outF, Tg.store, p1, p2, e1, e2, e3, hp, m4, m5, hl, hl2]

theorem c_l_scoop (n : Nat) (p : D) (m : Int) (w : Int) (hp : Pou m p) (hm : m ≤ 100000) (hw : 0 < w) (hw2 : w ≤ 1000) : ∃ r p', 0 ≤ r ∧ r < w ∧ Pou (m + 1) p' ∧
    callF P (n + 1) 26 [.ow false p, .sh (.int w)] = .ok (.int r) false [.ow false p', .sh (.int w)] := by
  obtain ⟨c, fl, t, rfl, hc, hcb, ht, htm⟩ := hp
  have hb := big_lt
  have big2 : big + 6997 * 200000 + 10 < 2 ^ 901 := by decide +kernel
  have dw : divOk w := divOk_of 10 hw (by omega) (by decide)
  have d13 : divOk 13 := divOk_of 4 (by decide) (by decide) (by decide)
  by_cases h : fl = 1 ∧ 0 < c
  · obtain ⟨rfl, h0⟩ := h
    refine ⟨c % w, pou (c / w) 1 (t + 1), Int.emod_nonneg _ (by omega), Int.emod_lt_of_pos _ hw, ⟨_, _, _, rfl, Int.ediv_nonneg hc (by omega), ?_, by omega, by omega⟩, ?_⟩
    · have := Int.ediv_le_self w hc
      omega
    · rw [callF_of g_l_scoop rfl rfl]
      simp [f_l_scoop, b_l_scoop, f26, b26, execs, exec, eval, evals, argOf, Arg.peek, pureR, args, peeks, outF, Tg.store, h0, hw, dw]
  · have t1 : (0 : Int) ≤ t + 1 := by omega
    have m1 : mulOk 6997 (t + 1) := mulOk_of 20 20 (by decide) (by omega) (by decide)
    have m2 : mulOk (c + 6997 * (t + 1) + 5) 69997 := mulOk_of 901 20 (small_of _ (by omega) (by omega)) (by decide) (by decide)
    generalize hA : ((c + 6997 * (t + 1) + 5) * 69997 + 31) % 2147483629 = A at *
    have a0 : 0 ≤ A := by rw [← hA]; exact Int.emod_nonneg _ (by decide)
    have a1 : A < 2147483629 := by rw [← hA]; exact Int.emod_lt_of_pos _ (by decide)
    have m3 : mulOk A A := mulOk_of 31 31 (by omega) (by omega) (by decide)
    have m4 : mulOk 17 (t + 1) := mulOk_of 20 20 (by decide) (by omega) (by decide)
    generalize hB : (A * A + 17 * (t + 1)) % 2147483579 = B at *
    have b_is_integer : 0 ≤ B := by rw [← hB]; exact Int.emod_nonneg _ (by decide)
    have b_is_from : B < 2147483579 := by rw [← hB]; exact Int.emod_lt_of_pos _ (by decide)
    have m5 : mulOk 3 (t + 1) := mulOk_of 20 20 (by decide) (by omega) (by decide)
    have big3 : big + 2147483579 + 3 * 200000 < 2 ^ 901 := by decide +kernel
    have m6 : mulOk (B + c + 3 * (t + 1)) 48611 := mulOk_of 901 20 (small_of _ (by omega) (by omega)) (by decide) (by decide)
    refine ⟨((B + c + 3 * (t + 1)) * 48611 + 29) % 2147483563 / 13 % w, pou c fl (t + 1), Int.emod_nonneg _ (by omega), Int.emod_lt_of_pos _ hw, ⟨_, _, _, rfl, hc, hcb, by omega, by omega⟩, ?_⟩
    rw [callF_of g_l_scoop rfl rfl]
    have h' : fl = 1 → ¬ (0 < c) := fun h1 h2 => h ⟨h1, h2⟩
    by_cases hf : fl = 1
    · have hc0 := h' hf
      simp [f_l_scoop, b_l_scoop, f26, b26, execs, exec, eval, evals, argOf, Arg.peek, pureR, args, peeks, outF, Tg.store, hc0, hf, hw, dw, d13, m1, m2, m3, m4, m5, m6, hA, hB]
    · simp [f_l_scoop, b_l_scoop, f26, b26, execs, exec, eval, evals, argOf, Arg.peek, pureR, args, peeks, outF, Tg.store, hf, hw, dw, d13, m1, m2, m3, m4, m5, m6, hA, hB]

theorem c_l_pick (n : Nat) (p : D) (m : Int) (rows : List D) (hp : Pou m p) (hm : m ≤ 100000) (h0 : rows ≠ []) (h1 : rows.length ≤ 1000) : ∃ d p', d ∈ rows ∧ Pou (m + 1) p' ∧
    callF P (n + 2) 27 [.ow false p, .sh (.lst rows)] = .ok d false [.ow false p', .sh (.lst rows)] := by
  have hl : 0 < rows.length := List.length_pos_iff.mpr h0
  obtain ⟨r, p', r0, r1, hp', e⟩ := c_l_scoop n p m rows.length hp hm (by omega) (by omega)
  obtain ⟨k, rfl⟩ : ∃ k : Nat, r = k := ⟨r.toNat, by omega⟩
  have hk : k < rows.length := by omega
  refine ⟨rows[k], p', List.getElem_mem hk, hp', ?_⟩
  rw [callF_of g_l_pick rfl rfl]
  simp [f_l_pick, b_l_pick, f27, b27, execs, exec, eval, evals, argOf, Arg.peek, pureR, args, peeks, outF, Tg.store, doCall, takes, gives, lib_bor g_l_scoop, f_l_scoop, f26, f_l_scoop, e, hk]
theorem c_l_pickO (n : Nat) (p : D) (m : Int) (rows : List D) (hp : Pou m p) (hm : m ≤ 100000) (h0 : rows ≠ []) (h1 : rows.length ≤ 1000) : ∃ d p', d ∈ rows ∧ Pou (m + 1) p' ∧
    callF P (n + 2) 27 [.ow false p, .ow false (.lst rows)] = .ok d false [.ow false p', .ow false (.lst rows)] := by
  have hl : 0 < rows.length := List.length_pos_iff.mpr h0
  obtain ⟨r, p', r0, r1, hp', e⟩ := c_l_scoop n p m rows.length hp hm (by omega) (by omega)
  obtain ⟨k, rfl⟩ : ∃ k : Nat, r = k := ⟨r.toNat, by omega⟩
  have hk : k < rows.length := by omega
  refine ⟨rows[k], p', List.getElem_mem hk, hp', ?_⟩
  rw [callF_of g_l_pick rfl rfl]
  simp [f_l_pick, b_l_pick, f27, b27, execs, exec, eval, evals, argOf, Arg.peek, pureR, args, peeks, outF, Tg.store, doCall, takes, gives, lib_bor g_l_scoop, f_l_scoop, f26, f_l_scoop, e, hk]
end Vk21


set_option Elab.async false
set_option linter.all false
set_option maxRecDepth 100000
set_option maxHeartbeats 4000000
namespace Vk21
open Pi Lk21
theorem low_loop (L : Lib) (t b : D) : ∀ (k fuel : Nat) (x y : Int), 0 ≤ x → 0 ≤ y → y < 2 ^ k → 2 * k + 1 ≤ fuel →
    whLoop (fun e => (argOf (.cmp .gt (.var 3) (.con (.int 0))) (eval L (.cmp .gt (.var 3) (.con (.int 0))) e) e).bind fun x env1 => pureR ((x.peek env1).map D.truth) env1)
      (fun e => execs L [.par [2, 3] [.var 3, .bin .mod (.bi .int [.var 2]) (.var 3)]] e) fuel [.sh t, .sh b, .sh (.int x), .sh (.int y)] = .ok .nx [.sh t, .sh b, .sh (.int (Nat.gcd x.natAbs y.natAbs : Nat)), .sh (.int 0)] := by
  have step : ∀ (fuel : Nat) (x y : Int), 0 < y → whLoop (fun e => (argOf (.cmp .gt (.var 3) (.con (.int 0))) (eval L (.cmp .gt (.var 3) (.con (.int 0))) e) e).bind fun x env1 => pureR ((x.peek env1).map D.truth) env1)
      (fun e => execs L [.par [2, 3] [.var 3, .bin .mod (.bi .int [.var 2]) (.var 3)]] e) (fuel + 1) [.sh t, .sh b, .sh (.int x), .sh (.int y)] =
      whLoop (fun e => (argOf (.cmp .gt (.var 3) (.con (.int 0))) (eval L (.cmp .gt (.var 3) (.con (.int 0))) e) e).bind fun x env1 => pureR ((x.peek env1).map D.truth) env1)
      (fun e => execs L [.par [2, 3] [.var 3, .bin .mod (.bi .int [.var 2]) (.var 3)]] e) fuel [.sh t, .sh b, .sh (.int y), .sh (.int (x % y))] := by
    intro fuel x y hy
    conv => lhs; unfold whLoop
    simp [execs, exec, eval, evals, argOf, Arg.peek, pureR, args, peeks, Tg.store, storeT, hy]
  have stop : ∀ (fuel : Nat) (x : Int), 0 ≤ x → whLoop (fun e => (argOf (.cmp .gt (.var 3) (.con (.int 0))) (eval L (.cmp .gt (.var 3) (.con (.int 0))) e) e).bind fun x env1 => pureR ((x.peek env1).map D.truth) env1)
      (fun e => execs L [.par [2, 3] [.var 3, .bin .mod (.bi .int [.var 2]) (.var 3)]] e) (fuel + 1) [.sh t, .sh b, .sh (.int x), .sh (.int 0)] = .ok .nx [.sh t, .sh b, .sh (.int (Nat.gcd x.natAbs (0 : Int).natAbs : Nat)), .sh (.int 0)] := by
    intro fuel x hx
    have : ((x.natAbs : Nat) : Int) = x := Int.natAbs_of_nonneg hx
    unfold whLoop
    simp [execs, exec, eval, evals, argOf, Arg.peek, pureR, args, peeks, Tg.store, storeT, this]
  have gs : ∀ x y : Int, 0 ≤ x → 0 < y → Nat.gcd y.natAbs (x % y).natAbs = Nat.gcd x.natAbs y.natAbs := by
    intro x y hx hy
    rw [Int.natAbs_emod_of_nonneg hx, Nat.gcd_comm, ← Nat.gcd_rec, Nat.gcd_comm]
  intro k
  induction k with
  | zero =>
    intro fuel x y hx hy hk hf
    obtain ⟨f, rfl⟩ : ∃ f, fuel = f + 1 := ⟨fuel - 1, by omega⟩
    have : y = 0 := by simp at hk; omega
    subst this
    exact stop f x hx
  | succ k ih =>
    intro fuel x y hx hy hk hf
    obtain ⟨f, rfl⟩ : ∃ f, fuel = f + 1 + 1 := ⟨fuel - 2, by omega⟩
    by_cases h0 : y = 0
    · subst h0; exact stop (f + 1) x hx
    · have hy' : 0 < y := by omega
      rw [step (f + 1) x y hy']
      have r0 : 0 ≤ x % y := Int.emod_nonneg _ h0
      have r1 : x % y < y := Int.emod_lt_of_pos _ hy'
      by_cases h1 : x % y = 0
      · rw [h1, stop f y hy, ← gs x y hx hy', h1]
      · have hr : 0 < x % y := by omega
        rw [step f y (x % y) hr]
        have q0 : 0 ≤ y % (x % y) := Int.emod_nonneg _ h1
        have q1 : y % (x % y) < x % y := Int.emod_lt_of_pos _ hr
        have q2 : 2 * (y % (x % y)) < y := by
          have e := Int.emod_add_mul_ediv y (x % y)
          have d1 : 1 ≤ y / (x % y) := by
            have := (Int.le_ediv_iff_mul_le hr (a := 1) (b := y)).mpr (by omega)
            exact this
          have : x % y ≤ (x % y) * (y / (x % y)) := by
            have := Int.mul_le_mul_of_nonneg_left d1 r0
            omega
          omega
        have hk' : y % (x % y) < 2 ^ k := by
          have : (2 : Int) ^ (k + 1) = 2 * 2 ^ k := by rw [Int.pow_succ]; omega
          omega
        rw [ih f (x % y) (y % (x % y)) r0 q0 hk' (by omega), gs y (x % y) hy hr, gs x y hx hy']
theorem c_l_low (n : Nat) (t b : Int) (hb : 0 < b) (hs : b < 2 ^ 8000) : callF P (n + 1) 29 [.sh (.int t), .sh (.int b)] = .ok (num (t / gcdI t b) (b / gcdI t b)) false [.sh (.int t), .sh (.int b)] := by
  have ab : (if t < 0 then -t else t) = (t.natAbs : Int) := by split <;> omega
  have g_is_integer : 0 < gcdI t b := by
    have : 0 < Nat.gcd t.natAbs b.natAbs := Nat.gcd_pos_of_pos_right _ (by omega)
    show (0 : Int) < (Nat.gcd t.natAbs b.natAbs : Nat)
    omega
  have gle : gcdI t b ≤ b := by
    have : Nat.gcd t.natAbs b.natAbs ≤ b.natAbs := Nat.gcd_le_right _ (by omega)
    show ((Nat.gcd t.natAbs b.natAbs : Nat) : Int) ≤ b
    omega
  have dg : divOk (gcdI t b) := divOk_of 8000 g_is_integer (small_of _ (by omega) (by omega)) (by decide)
  have lo := low_loop (P.lib (callF P n)) (.int t) (.int b) 8000 turns (t.natAbs : Int) b (by omega) (by omega) hs (by decide)
  rw [Int.natAbs_natCast] at lo
  rw [callF_of g_l_low rfl rfl]
  simp only [f_l_low, b_l_low, f29, b29, execs, exec]
  rw [show ([Sl.sh (D.int t), Sl.sh (D.int b)] ++ List.replicate (4 - 2) Sl.no) = [Sl.sh (D.int t), Sl.sh (D.int b), .no, .no] from rfl]
  have e1 : exec (P.lib (callF P n)) (.par [2, 3] [.bi .abs [.var 0], .var 1]) [Sl.sh (D.int t), Sl.sh (D.int b), .no, .no] = .ok .nx [Sl.sh (D.int t), Sl.sh (D.int b), .sh (.int (t.natAbs : Int)), .sh (.int b)] := by
    simp [execs, exec, eval, evals, argOf, Arg.peek, pureR, args, peeks, Tg.store, storeT, ab]
  simp only [exec] at e1
  rw [e1]
  simp only [Res.bind_ok]
  simp only [execs, exec] at lo
  rw [lo]
  simp [execs, exec, eval, evals, argOf, Arg.peek, pureR, args, peeks, outF, Tg.store, storeT, dg]

theorem same_item (n : Nat) (s : D) (a0 : Sl) (ha : a0 = .sh s ∨ a0 = .ow false s) (x : D) (k : Nat) (hix : ixD s (.int k) = some x) (e : callF P n 28 [.sh x, .sh x] = .ok (.bl true) false [.sh x, .sh x]) :
    eval (P.lib (callF P n)) (.call 28 [.ix (.var 0) (.var 2), .ix (.var 1) (.var 2)] [0, 1]) [a0, .sh s, .sh (.int k)] = .ok (.bl true, false) [a0, .sh s, .sh (.int k)] := by
  rcases ha with rfl | rfl <;> simp [eval, args, argOf, Arg.peek, pureR, doCall, takes, lib_bor g_l_same, f_l_same, f28, f_l_same, e, hix]
theorem same_it (n : Nat) (s : D) (a0 : Sl) (xs : List D) (hs : s = .tup xs ∨ s = .lst xs) (hz : xs.length ≤ 1000) :
    ((args (P.lib (callF P n)) [.bi .len [.var 1]] [a0, .sh s, .no]).bind (walkB .range)) = .ok (rangeD 0 xs.length) [a0, .sh s, .no] := by
  have ha : args (P.lib (callF P n)) [.bi .len [.var 1]] [a0, .sh s, .no] = .ok [.val (.int xs.length)] [a0, .sh s, .no] := by
    rcases hs with rfl | rfl <;> rfl
  rw [ha, Res.bind_ok]
  exact walkB_of (ds := [.int xs.length]) rfl (iter_len xs hz)
theorem same_lc (n : Nat) (s : D) (a0 : Sl) (ha : a0 = .sh s ∨ a0 = .ow false s) (xs : List D) (hs : s = .tup xs ∨ s = .lst xs) (hz : xs.length ≤ 1000) (ih : ∀ x ∈ xs, callF P n 28 [.sh x, .sh x] = .ok (.bl true) false [.sh x, .sh x]) :
    eval (P.lib (callF P n)) (.lc (.call 28 [.ix (.var 0) (.var 2), .ix (.var 1) (.var 2)] [0, 1]) [2] (.name 2) .range [.bi .len [.var 1]] []) [a0, .sh s, .no] = .ok (.lst ((rangeD 0 xs.length).map fun _ => .bl true), true) [a0, .sh s, .no] := by
  have hix : ∀ (k : Nat) (hk : k < xs.length), ixD s (.int k) = some xs[k] := by
    intro k hk
    rcases hs with rfl | rfl <;> simp [hk]
  have hl : ([] : List D).length + (rangeD 0 xs.length).length ≤ 100000 := by rw [rangeD_len, List.length_nil]; omega
  rw [eval, same_it n s a0 xs hs hz, Res.bind_ok]
  rw [show wipeE [a0, .sh s, .no] [2] = [a0, .sh s, .no] from rfl]
  rw [lcLoop_all (g := fun _ => .bl true) ?hx hl]
  case hx =>
    intro x hx
    obtain ⟨k, hk', rfl⟩ := rangeD_mem hx
    have e := same_item n s a0 ha xs[k] k (hix k hk') (ih xs[k] (List.getElem_mem hk'))
    rw [Int.zero_add]
    simp [Tg.store, holds, e, wipeE]
  rfl
theorem same_seq (n : Nat) (s : D) (a0 : Sl) (ha : a0 = .sh s ∨ a0 = .ow false s) (xs : List D) (hs : s = .tup xs ∨ s = .lst xs) (hz : xs.length ≤ 1000) (ih : ∀ x ∈ xs, callF P n 28 [.sh x, .sh x] = .ok (.bl true) false [.sh x, .sh x]) :
    callF P (n + 1) 28 [a0, .sh s] = .ok (.bl true) false [a0, .sh s] := by
  rw [callF_of g_l_same rfl (by rcases ha with rfl | rfl <;> rfl)]
  have lc := same_lc n s a0 ha xs hs hz ih
  have al := bi_one (f := .all) (by simp) lc
  rw [biD_all, allBls_map (fun _ => true), Option.map_some, pureR_some] at al
  have tr : ((rangeD 0 xs.length).map fun _ => true).all id = true := by simp
  rw [tr] at al
  show outF 2 (execs (P.lib (callF P n)) b_l_same [a0, .sh s, .no]) = _
  have e0 : eval (P.lib (callF P n)) (.or (.isin (.var 1) [.tuple]) (.isin (.var 1) [.list])) [a0, .sh s, .no] = .ok (.bl true, false) [a0, .sh s, .no] := by
    rcases ha with rfl | rfl <;> rcases hs with rfl | rfl <;> rfl
  have e1 : eval (P.lib (callF P n)) (.or (.cmp .ne (.isin (.var 1) [.tuple]) (.isin (.var 0) [.tuple])) (.cmp .ne (.isin (.var 1) [.list]) (.isin (.var 0) [.list]))) [a0, .sh s, .no] = .ok (.bl false, false) [a0, .sh s, .no] := by
    rcases ha with rfl | rfl <;> rcases hs with rfl | rfl <;> rfl
  have e2 : eval (P.lib (callF P n)) (.cmp .eq (.bi .len [.var 0]) (.bi .len [.var 1])) [a0, .sh s, .no] = .ok (.bl true, false) [a0, .sh s, .no] := by
    rcases ha with rfl | rfl <;> rcases hs with rfl | rfl <;> simp [eval, args, argOf, Arg.peek, pureR, peeks]
  unfold b_l_same b28
  rw [ss_rt (d := .bl true) (fr := false) (env' := [a0, .sh s, .no])]
  · rfl
  rw [ite_of (by simp) e0]
  simp only [truth_bl, if_true]
  rw [ss_nx (env' := [a0, .sh s, .no])]
  · exact ss_rt (ret_of (by simp) (by rw [and_t e2]; exact al))
  · rw [ite_of (by simp) e1]
    rfl
theorem c_l_same (n : Nat) : ∀ (k : Nat) (d : D), d.depth ≤ k → D.fine d → callF P (n + k + 1) 28 [.sh d, .sh d] = .ok (.bl true) false [.sh d, .sh d] := by
  intro k
  induction k with
  | zero =>
    intro d hd hf
    rw [callF_of g_l_same rfl rfl]
    cases d with
    | tup xs => simp [D.depth] at hd
    | lst xs => simp [D.depth] at hd
    | _ => simp [f_l_same, b_l_same, f28, b28, execs, exec, eval, evals, argOf, Arg.peek, pureR, args, peeks, outF, tyD, cmpD, D.depth, D.eqb]
  | succ k ih =>
    intro d hd hf
    cases d with
    | tup xs =>
      simp only [D.depth] at hd
      simp only [D.fine] at hf
      exact same_seq (n + k + 1) (.tup xs) _ (.inl rfl) xs (.inl rfl) hf.1 fun x hx => ih x (Nat.le_trans (depths_mem hx) (by omega)) (fines_mem hf.2 hx)
    | lst xs =>
      simp only [D.depth] at hd
      simp only [D.fine] at hf
      exact same_seq (n + k + 1) (.lst xs) _ (.inl rfl) xs (.inr rfl) hf.1 fun x hx => ih x (Nat.le_trans (depths_mem hx) (by omega)) (fines_mem hf.2 hx)
    | _ =>
      rw [callF_of g_l_same rfl rfl]
      simp [f_l_same, b_l_same, f28, b28, execs, exec, eval, evals, argOf, Arg.peek, pureR, args, peeks, outF, tyD, cmpD, D.depth, D.eqb]

theorem c_l_ahead (n : Nat) (a b c d : Int) (h1 : mulOk a d) (h2 : mulOk c b) : callF P (n + 1) 30 [.sh (num a b), .sh (num c d)] = .ok (.bl (decide (a * d < c * b))) false [.sh (num a b), .sh (num c d)] := by
  rw [callF_of g_l_ahead rfl rfl]
  simp [f_l_ahead, b_l_ahead, f30, b30, execs, exec, eval, argOf, Arg.peek, pureR, args, peeks, outF, h1, h2]
theorem c_l_number (n : Nat) (p : D) (m : Int) (hp : Pou m p) (hm : m ≤ 90000) : ∃ a b p', Nm a b ∧ Pou (m + 3) p' ∧ callF P (n + 2) 32 [.ow false p] = .ok (num a b) false [.ow false p'] := by
  obtain ⟨r, p1, r0, r1, hp1, e1⟩ := c_l_scoop n p m 8 hp (by omega) (by decide) (by decide)
  obtain ⟨u, p2, u0, u1, hp2, e2⟩ := c_l_scoop n p1 (m + 1) 9 hp1 (by omega) (by decide) (by decide)
  obtain ⟨v, p3, v0, v1, hp3, e3⟩ := c_l_scoop n p2 (m + 1 + 1) 5 hp2 (by omega) (by decide) (by decide)
  obtain ⟨w, p4, w0, w1, hp4, e4⟩ := c_l_scoop n p2 (m + 1 + 1) 2 hp2 (by omega) (by decide) (by decide)
  have m1 : mulOk (u - 4) 2 := mulOk_of 5 5 (by omega) (by decide) (by decide)
  have m2 : mulOk 2 w := mulOk_of 5 5 (by decide) (by omega) (by decide)
  have G0 : (10 ^ 30 : Int) < 2 ^ 101 := by decide +kernel
  have p30 : opD .pow (.int 10) (.int 30) = some (.int (10 ^ 30), false) := opD_pow (by decide)
  generalize hG : (10 ^ 30 : Int) = G at *
  have Gp : 0 < G := by rw [← hG]; decide
  have m3 : mulOk G (1 - 2 * w) := mulOk_of 101 5 (small_of _ (by omega) (by omega)) (by omega) (by decide)
  have e21 := c_l_low n ((u - 4) * 2 + 1) (1 + v) (by omega) (by omega)
  have e22 := c_l_low n (G * (1 - 2 * w) + (u - 4)) 3 (by decide) (by decide)
  have hw : w = 0 ∨ w = 1 := by omega
  have hgt : (G * (1 - 2 * w) + (u - 4)).natAbs < 2 ^ 110 := by
    rcases hw with rfl | rfl <;> omega
  by_cases h4 : r < 4
  · refine ⟨u - 4, 1, p2, ⟨by decide, by show ((Nat.gcd _ 1 : Nat) : Int) = 1; rw [Nat.gcd_one_right]; rfl, by omega, by decide⟩, hp2.le (by omega), ?_⟩
    rw [callF_of g_l_number rfl rfl]
    simp [f_l_number, b_l_number, f32, b32, execs, exec, eval, evals, argOf, Arg.peek, pureR, args, peeks, outF, Tg.store, storeT, doCall, takes, gives, lib_bor g_l_scoop, f_l_scoop, f26, f_l_scoop, e1, e2, h4]
  · by_cases h6 : r < 6
    · refine ⟨_, _, p3, low_nm (t := (u - 4) * 2 + 1) (b := 1 + v) (by omega) (by omega) (by omega), hp3.le (by omega), ?_⟩
      rw [callF_of g_l_number rfl rfl]
      simp [f_l_number, b_l_number, f32, b32, execs, exec, eval, evals, argOf, Arg.peek, pureR, args, peeks, outF, Tg.store, storeT, doCall, takes, gives, lib_bor g_l_scoop, f_l_scoop, f26, f_l_scoop, lib_bor g_l_low, f_l_low, f29, f_l_low, e1, e2, e3, h4, h6, m1, e21]
    · by_cases h7 : r = 6
      · refine ⟨G * (1 - 2 * w) + (u - 4), 1, p4, ⟨by decide, by show ((Nat.gcd _ 1 : Nat) : Int) = 1; rw [Nat.gcd_one_right]; rfl, hgt, by decide⟩, hp4.le (by omega), ?_⟩
        rw [callF_of g_l_number rfl rfl]
        simp [f_l_number, b_l_number, f32, b32, execs, exec, eval, evals, argOf, Arg.peek, pureR, args, peeks, outF, Tg.store, storeT, doCall, takes, gives, lib_bor g_l_scoop, f_l_scoop, f26, f_l_scoop, e1, e2, e4, h7, m2, m3, p30]
      · refine ⟨_, _, p4, low_nm (t := G * (1 - 2 * w) + (u - 4)) (b := 3) (by decide) hgt (by decide), hp4.le (by omega), ?_⟩
        rw [callF_of g_l_number rfl rfl]
        simp [f_l_number, b_l_number, f32, b32, execs, exec, eval, evals, argOf, Arg.peek, pureR, args, peeks, outF, Tg.store, storeT, doCall, takes, gives, lib_bor g_l_scoop, f_l_scoop, f26, f_l_scoop, lib_bor g_l_low, f_l_low, f29, f_l_low, e1, e2, e4, h4, h6, h7, m2, m3, p30, e22]

end Vk21


set_option Elab.async false
set_option linter.all false
set_option maxRecDepth 100000
set_option maxHeartbeats 4000000
namespace Vk21
open Pi Lk21
theorem l_sorted_body (n : Nat) (x0 y2 y3 : Sl) (p : Nu) (acc : List Nu) (hz : acc.length ≤ 1000) (hp : Nb 1000 p) (ha : ∀ q ∈ acc, Nb 1000 q) :
    ∃ z3, execs (P.lib (callF P (n + 1))) [.ite (.cmp .notin (.var 2) (.var 1)) [.asg (.name 3) (.bi .len [.lc (.var 4) [4] (.name 4) .seq [.var 1] [.call 30 [.var 4, .var 2] [0, 1]]]), .asg (.name 1) (.bin .add (.bin .add (.cut (.var 1) (.con .non) (.var 3)) (.lst [.var 2])) (.cut (.var 1) (.var 3) (.con .non)))] []]
      [x0, .ow true (.lst (acc.map nD)), .sh (nD p), y3, .no] = .ok .nx [x0, .ow true (.lst ((ins p acc).map nD)), .sh (nD p), z3, .no] := by
  have hin : cmpD .notin (nD p) (.lst (acc.map nD)) = some (!decide (p ∈ acc)) := by
    show (if (nD p).depth ≤ 63 ∧ D.depths (acc.map nD) ≤ 63 then some (!(acc.map nD).any fun y => y.eqb (nD p)) else none) = _
    rw [if_pos ⟨by rw [nD_depth]; decide, Nat.le_trans (nD_depths acc) (by decide)⟩, nD_any]
  by_cases hm : p ∈ acc
  · refine ⟨y3, ?_⟩
    simp [execs, exec, eval, evals, argOf, Arg.peek, pureR, args, peeks, hin, hm, ins]
  · have hk : (acc.filter (lt2 · p)).length ≤ acc.length := List.length_filter_le _ _
    generalize hK : (acc.filter (lt2 · p)).length = k at hk
    have lc : eval (P.lib (callF P (n + 1))) (.lc (.var 4) [4] (.name 4) .seq [.var 1] [.call 30 [.var 4, .var 2] [0, 1]]) [x0, .ow true (.lst (acc.map nD)), .sh (nD p), y3, .no] = .ok (.lst ((acc.filter (lt2 · p)).map nD), true) [x0, .sh (.lst (acc.map nD)), .sh (nD p), y3, .no] := by
      have hi : (args (P.lib (callF P (n + 1))) [.var 1] [x0, .ow true (.lst (acc.map nD)), .sh (nD p), y3, .no]).bind (walkB .seq) = .ok (acc.map nD) [x0, .sh (.lst (acc.map nD)), .sh (nD p), y3, .no] := rfl
      have fm := filt_nD (lt2 · p) acc
      have := lc_of (L := P.lib (callF P (n + 1))) (elt := .var 4) (own := [4]) (tg := .name 4) (conds := [.call 30 [.var 4, .var 2] [0, 1]]) hi (lcLoop_fm (h := pickD (lt2 · p)) (fun x hx => ?_) (by simp; omega))
      · rw [this, fm]
        rfl
      · obtain ⟨q, hq, rfl⟩ := List.mem_map.mp hx
        obtain ⟨a, b⟩ := q
        obtain ⟨c, d⟩ := p
        have e := c_l_ahead n a b c d (mulSz (ha _ hq).sz.ta hp.sz.tb) (mulSz hp.sz.ta (ha _ hq).sz.tb)
        by_cases h : a * d < c * b
        · simp [wipeE, Tg.store, holds, eval, args, argOf, Arg.peek, doCall, takes, lib_bor g_l_ahead, f30, e, nD, lt2, h, pickD]
        · simp [wipeE, Tg.store, holds, eval, args, argOf, Arg.peek, doCall, takes, lib_bor g_l_ahead, f30, e, nD, lt2, h, pickD]
    have e1 : exec (P.lib (callF P (n + 1))) (.asg (.name 3) (.bi .len [.lc (.var 4) [4] (.name 4) .seq [.var 1] [.call 30 [.var 4, .var 2] [0, 1]]])) [x0, .ow true (.lst (acc.map nD)), .sh (nD p), y3, .no] = .ok .nx [x0, .sh (.lst (acc.map nD)), .sh (nD p), .sh (.int (k : Nat)), .no] := by
      have b1 := bi_one (f := .len) (by simp) lc
      simp only [exec, b1]
      simp [pureR, Tg.store, hK]
    have e2 : exec (P.lib (callF P (n + 1))) (.asg (.name 1) (.bin .add (.bin .add (.cut (.var 1) (.con .non) (.var 3)) (.lst [.var 2])) (.cut (.var 1) (.var 3) (.con .non)))) [x0, .sh (.lst (acc.map nD)), .sh (nD p), .sh (.int (k : Nat)), .no] = .ok .nx [x0, .ow true (.lst ((ins p acc).map nD)), .sh (nD p), .sh (.int (k : Nat)), .no] := by
      have c1 : cutL (acc.map nD) none (some (k : Int)) = (acc.map nD).take k := cutL_to (by simpa using hk)
      have c2 : cutL (acc.map nD) (some (k : Int)) none = (acc.map nD).drop k := cutL_from (by simpa using hk)
      have h1 : min k acc.length + 1 ≤ 100000 := by omega
      have h2 : min k acc.length + 1 + (acc.length - k) ≤ 100000 := by omega
      simp [exec, eval, evals, argOf, Arg.peek, pureR, args, peeks, Tg.store, partOf, cutD, c1, c2, h1, h2, ins, hm, hK, List.map_take, List.map_drop]
    refine ⟨.sh (.int (k : Nat)), ?_⟩
    have hc : eval (P.lib (callF P (n + 1))) (.cmp .notin (.var 2) (.var 1)) [x0, .ow true (.lst (acc.map nD)), .sh (nD p), y3, .no] = .ok (.bl true, false) [x0, .ow true (.lst (acc.map nD)), .sh (nD p), y3, .no] := by
      simp [eval, argOf, Arg.peek, pureR, hin, hm]
    have st : exec (P.lib (callF P (n + 1))) (.ite (.cmp .notin (.var 2) (.var 1)) [.asg (.name 3) (.bi .len [.lc (.var 4) [4] (.name 4) .seq [.var 1] [.call 30 [.var 4, .var 2] [0, 1]]]), .asg (.name 1) (.bin .add (.bin .add (.cut (.var 1) (.con .non) (.var 3)) (.lst [.var 2])) (.cut (.var 1) (.var 3) (.con .non)))] []) [x0, .ow true (.lst (acc.map nD)), .sh (nD p), y3, .no] = .ok .nx [x0, .ow true (.lst ((ins p acc).map nD)), .sh (nD p), .sh (.int (k : Nat)), .no] := by
      rw [ite_of (by simp) hc]
      simp only [truth_bl, if_true]
      rw [ss_nx e1, ss_nx e2, execs]
    rw [ss_nx st, execs]
theorem c_l_sortedA (n : Nat) (l : List Nu) (a0 : Sl) (h0 : a0 = .sh (.lst (l.map nD)) ∨ a0 = .ow false (.lst (l.map nD))) (hz : l.length ≤ 1000) (hl : ∀ q ∈ l, Nb 1000 q) : callF P (n + 2) 31 [a0] = .ok (.lst ((srt l).map nD)) true [.sh (.lst (l.map nD))] := by
  have key : Ok (exec (P.lib (callF P (n + 1))) (.fo (.name 2) .seq [.var 0] [.ite (.cmp .notin (.var 2) (.var 1)) [.asg (.name 3) (.bi .len [.lc (.var 4) [4] (.name 4) .seq [.var 1] [.call 30 [.var 4, .var 2] [0, 1]]]), .asg (.name 1) (.bin .add (.bin .add (.cut (.var 1) (.con .non) (.var 3)) (.lst [.var 2])) (.cut (.var 1) (.var 3) (.con .non)))] []]) [a0, .ow true (.lst []), .no, .no, .no]) fun fl e => fl = .nx ∧ ∃ y2 y3, e = [.sh (.lst (l.map nD)), .ow true (.lst ((srt l).map nD)), y2, y3, .no] := by
    refine Ok_for (items := l.map nD) (env1 := [.sh (.lst (l.map nD)), .ow true (.lst []), .no, .no, .no]) (by rcases h0 with rfl | rfl <;> rfl) ?_
    refine (Ok_loop (fun j env => ∃ y2 y3, env = [.sh (.lst (l.map nD)), .ow true (.lst ((srt (l.take j)).map nD)), y2, y3, .no]) ⟨_, _, rfl⟩ fun j hj env ⟨y2, y3, he⟩ => ?_).mono fun fl e ⟨h1, h2⟩ => ⟨h1, ?_⟩
    · subst he
      have hj' : j < l.length := by simpa using hj
      have hs : (srt (l.take j)).length ≤ 1000 := Nat.le_trans (srt_len _) (by rw [List.length_take]; omega)
      obtain ⟨z3, e⟩ := l_sorted_body n (.sh (.lst (l.map nD))) y2 y3 l[j] (srt (l.take j)) hs (hl _ (List.getElem_mem hj')) fun q hq => hl q (List.mem_of_mem_take (srt_mem.mp hq))
      have hj2 : (l.map nD)[j] = nD l[j] := List.getElem_map _
      rw [hj2]
      show Ok (execs (P.lib (callF P (n + 1))) _ [.sh (.lst (l.map nD)), .ow true (.lst ((srt (l.take j)).map nD)), .sh (nD l[j]), y3, .no]) _
      rw [e, Ok_ok, take_succ_map l hj', srt_snoc]
      exact ⟨.inl rfl, _, _, rfl⟩
    · simp only [List.length_map, List.take_length] at h2
      exact h2
  obtain ⟨fl, e, h1, rfl, y2, y3, rfl⟩ := key.ex
  rw [callF_of g_l_sorted rfl (by rcases h0 with rfl | rfl <;> rfl)]
  show outF 1 (execs (P.lib (callF P (n + 1))) [.asg (.name 1) (.lst []), .fo (.name 2) .seq [.var 0] [.ite (.cmp .notin (.var 2) (.var 1)) [.asg (.name 3) (.bi .len [.lc (.var 4) [4] (.name 4) .seq [.var 1] [.call 30 [.var 4, .var 2] [0, 1]]]), .asg (.name 1) (.bin .add (.bin .add (.cut (.var 1) (.con .non) (.var 3)) (.lst [.var 2])) (.cut (.var 1) (.var 3) (.con .non)))] []], .ret (.var 1)] [a0, .no, .no, .no, .no]) = _
  rw [ss_nx (env' := [a0, .ow true (.lst []), .no, .no, .no]) rfl, ss_nx h1]
  rfl
theorem c_l_sorted (n : Nat) (l : List Nu) (hz : l.length ≤ 1000) (hl : ∀ q ∈ l, Nb 1000 q) : callF P (n + 2) 31 [.sh (.lst (l.map nD))] = .ok (.lst ((srt l).map nD)) true [.sh (.lst (l.map nD))] := c_l_sortedA n l _ (.inl rfl) hz hl
end Vk21


set_option Elab.async false
set_option linter.all false
set_option maxRecDepth 100000
set_option maxHeartbeats 4000000
namespace Vk21
open Pi Lk21
theorem c_is_term (n : Nat) (m : Int) (d : D) : callF P (n + 4) 13 [.sh (.int m), .sh d] = .ok (.bl (isTm m d)) false [.sh (.int m), .sh d] := by
  have e1 := c_is_below n m d
  have e2 := c_is_number n d
  rw [callF_of g_is_term rfl rfl]
  cases d with
  | int i =>
    have h3 : isNum (.int i) = false := rfl
    rw [h3] at e2
    cases h : (decide (0 ≤ i) && decide (i < m)) <;> simp only [h] at e1 <;> simp [f13, b13, execs, exec, eval, evals, argOf, Arg.peek, pureR, args, peeks, outF, doCall, takes, gives, lib_bor g_is_below, f2, lib_bor g_is_number, f5, e1, e2, isTm, h]
  | _ => simp [f13, b13, execs, exec, eval, evals, argOf, Arg.peek, pureR, args, peeks, outF, doCall, takes, gives, lib_bor g_is_below, f2, lib_bor g_is_number, f5, e1, e2, isTm]
theorem isf_lc (n : Nat) (m : Int) (x2 : Sl) (w : PySem.Str) (ys : List D) (r : List D) (hz : ys.length ≤ 100000) (g : D → Bool) (h : ∀ y ∈ ys, callF P n 18 [.sh (.int m), .sh y] = .ok (.bl (g y)) false [.sh (.int m), .sh y]) :
    eval (P.lib (callF P n)) (.bi .all [.lc (.call 18 [.var 0, .var 3] [0, 1]) [3] (.name 3) .seq [.ix (.var 1) (.con (.int 1))] []]) [.sh (.int m), .sh (.tup (.str w :: .tup ys :: r)), x2, .no] = .ok (.bl (ys.all g), false) [.sh (.int m), .sh (.tup (.str w :: .tup ys :: r)), x2, .no] := by
  have hi : (args (P.lib (callF P n)) [.ix (.var 1) (.con (.int 1))] [.sh (.int m), .sh (.tup (.str w :: .tup ys :: r)), x2, .no]).bind (walkB .seq) = .ok ys [.sh (.int m), .sh (.tup (.str w :: .tup ys :: r)), x2, .no] := walk_seq (fr := false) (by simp) (.inl (by simp [eval, argOf, Arg.peek]))
  have lc := lc_map (elt := .call 18 [.var 0, .var 3] [0, 1]) (own := [3]) (tg := .name 3) (fun y => .bl (g y)) hi hz fun y hy => ⟨_, [.sh (.int m), .sh (.tup (.str w :: .tup ys :: r)), x2, .sh y], false, rfl, by
    have e := h y hy
    simp [wipeE, eval, args, argOf, Arg.peek, doCall, takes, lib_bor g_is_formula_in, f18, e], rfl⟩
  rw [bi_one (by simp) lc, biD_all, allBls_map, Option.map_some, pureR_some]
  have : ((ys.map g).all id) = ys.all g := by simp
  rw [this]
  rfl
theorem c_is_formula_in (n : Nat) : ∀ (k : Nat) (m : Int) (d : D), d.depth ≤ k → k ≤ 60 → D.fine d → callF P (n + k + 5) 18 [.sh (.int m), .sh d] = .ok (.bl (isF (k + 1) m d)) false [.sh (.int m), .sh d] := by
  intro k
  induction k with
  | zero =>
    intro m d hd hk hf
    rw [callF_of g_is_formula_in rfl rfl]
    cases d with
    | tup xs => rw [depth_tup] at hd; omega
    | _ => rfl
  | succ k ih =>
    intro m d hd hk hf
    cases d with
    | tup xs =>
      rw [depth_tup] at hd
      simp only [D.fine] at hf
      rw [callF_of g_is_formula_in rfl rfl]
      show outF 2 (execs (P.lib (callF P (n + (k + 1) + 4))) [.ite (.or (.not (.isin (.var 1) [.tuple])) (.cmp .eq (.var 1) (.tup []))) [.ret (.con (.bl false))] [], .asg (.name 2) (.ix (.var 1) (.con (.int 0))), .ite (.or (.cmp .eq (.var 2) (.con (.str "less"))) (.cmp .eq (.var 2) (.con (.str "same")))) [.ret (.and (.cmp .eq (.bi .len [.var 1]) (.con (.int 3))) (.and (.call 13 [.var 0, .ix (.var 1) (.con (.int 1))] [0, 1]) (.call 13 [.var 0, .ix (.var 1) (.con (.int 2))] [0, 1])))] [], .ite (.or (.cmp .eq (.var 2) (.con (.str "both"))) (.cmp .eq (.var 2) (.con (.str "either")))) [.ite (.or (.cmp .ne (.bi .len [.var 1]) (.con (.int 2))) (.or (.not (.call 3 [.con (.non), .ix (.var 1) (.con (.int 1))] [0, 1])) (.cmp .eq (.ix (.var 1) (.con (.int 1))) (.tup [])))) [.ret (.con (.bl false))] [], .ret (.bi .all [.lc (.call 18 [.var 0, .var 3] [0, 1]) [3] (.name 3) .seq [.ix (.var 1) (.con (.int 1))] []])] [], .ite (.cmp .eq (.var 2) (.con (.str "not"))) [.ret (.and (.cmp .eq (.bi .len [.var 1]) (.con (.int 2))) (.call 18 [.var 0, .ix (.var 1) (.con (.int 1))] [0, 1]))] [], .ite (.or (.cmp .eq (.var 2) (.con (.str "some"))) (.cmp .eq (.var 2) (.con (.str "all")))) [.ret (.and (.cmp .eq (.bi .len [.var 1]) (.con (.int 2))) (.call 18 [.bin .add (.var 0) (.con (.int 1)), .ix (.var 1) (.con (.int 1))] [0, 1]))] [], .ret (.cmp .eq (.var 1) (.glo 0))] [.sh (.int m), .sh (.tup xs), .no, .no]) = _
      cases xs with
      | nil => rfl
      | cons w r =>
        rw [depths_cons] at hd
        have ih' : ∀ (m : Int) (d : D), d.depth ≤ k → D.fine d → callF P (n + (k + 1) + 4) 18 [.sh (.int m), .sh d] = .ok (.bl (isF (k + 1) m d)) false [.sh (.int m), .sh d] := fun m d h hf => by
          rw [show n + (k + 1) + 4 = n + k + 5 by omega]; exact ih m d h (by omega) hf
        have tm : ∀ (m : Int) (d : D), callF P (n + (k + 1) + 4) 13 [.sh (.int m), .sh d] = .ok (.bl (isTm m d)) false [.sh (.int m), .sh d] := fun m d => c_is_term _ m d
        have tp : ∀ (d : D), callF P (n + (k + 1) + 4) 3 [.sh .non, .sh d] = .ok (.bl (match d with | .tup xs => true | _ => false)) false [.sh .non, .sh d] := fun d => c_is_tupleN _ d
        have lcq := fun (m : Int) (x2 : Sl) (w : PySem.Str) (ys r : List D) (hz : ys.length ≤ 100000) (h : ∀ y ∈ ys, y.depth ≤ k) (hf : D.fines ys) => isf_lc (n + (k + 1) + 4) m x2 w ys r hz (isF (k + 1) m) fun y hy => ih' m y (h y hy) (fines_mem hf hy)
        have bT : (P.lib (callF P (n + (k + 1) + 4))).bor 13 = f13.bor := lib_bor g_is_term _
        have bU : (P.lib (callF P (n + (k + 1) + 4))).bor 3 = f3.bor := lib_bor g_is_tuple _
        have bF : (P.lib (callF P (n + (k + 1) + 4))).bor 18 = f18.bor := lib_bor g_is_formula_in _
        have cC : (P.lib (callF P (n + (k + 1) + 4))).C = callF P (n + (k + 1) + 4) := rfl
        have cy : (P.lib (callF P (n + (k + 1) + 4))).con 0 = some (.tup [.str "yes"]) := rfl
        clear ih
        generalize P.lib (callF P (n + (k + 1) + 4)) = LL at *
        generalize callF P (n + (k + 1) + 4) = C at *
        have h0 : (D.tup (w :: r)).depth ≤ 64 := by rw [depth_tup, depths_cons]; omega
        have hw : w.depth ≤ 64 := by omega
        have q0 : cmpD .eq (.tup (w :: r)) (.tup []) = some false := by rw [cmpD_eq h0 (by simp [D.depth, D.depths])]; simp [D.eqb, D.eqbs]
        have q : ∀ s, cmpD .eq w (.str s) = some (w.eqb (.str s)) := fun s => cmpD_eq hw (by simp [D.depth])
        have qy : cmpD .eq (.tup (w :: r)) (.tup [.str "yes"]) = some (w.eqb (.str "yes") && r.isEmpty) := by
          rw [cmpD_eq h0 (by simp [D.depth, D.depths])]
          cases r <;> simp [D.eqb, D.eqbs]
        have qq : ∀ (s : PySem.Str), eval LL (.cmp .eq (.var 2) (.con (.str s))) [.sh (.int m), .sh (.tup (w :: r)), .sh w, .no] = .ok (.bl (w.eqb (.str s)), false) [.sh (.int m), .sh (.tup (w :: r)), .sh w, .no] := fun s => by
          simp [eval, argOf, Arg.peek, q]
        have qo : ∀ (s t : PySem.Str), eval LL (.or (.cmp .eq (.var 2) (.con (.str s))) (.cmp .eq (.var 2) (.con (.str t)))) [.sh (.int m), .sh (.tup (w :: r)), .sh w, .no] = .ok (.bl (w.eqb (.str s) || w.eqb (.str t)), false) [.sh (.int m), .sh (.tup (w :: r)), .sh w, .no] := fun s t =>
          or_of (fr1 := false) (fr2 := false) (qq s) (qq t)
        have ln : eval LL (.bi .len [.var 1]) [.sh (.int m), .sh (.tup (w :: r)), .sh w, .no] = .ok (.int (r.length + 1), false) [.sh (.int m), .sh (.tup (w :: r)), .sh w, .no] := by simp [eval, args, argOf, Arg.peek, peeks]
        rw [ite_no (by simp) (fr := false) (env' := [.sh (.int m), .sh (.tup (w :: r)), .no, .no]) (by simp [eval, evals, argOf, Arg.peek, tyD, q0])]
        rw [ss_nx (env' := [.sh (.int m), .sh (.tup (w :: r)), .sh w, .no]) (by simp [exec, eval, argOf, Arg.peek, Tg.store])]
        have fin : ∀ {b : Bool} {res : Res Fl} {k0 : Bool}, res = .ok (.rt (.bl b) k0) [.sh (.int m), .sh (.tup (w :: r)), .sh w, .no] → k0 = false → b = isF (k + 1 + 1) m (.tup (w :: r)) → outF 2 res = .ok (.bl (isF (k + 1 + 1) m (.tup (w :: r)))) false [.sh (.int m), .sh (.tup (w :: r))] := by
          intro b res k0 h1 h2 h3; subst h1 h2 h3; rfl
        have h2 := qo "less" "same"
        have h3 := qo "both" "either"
        have h4 := qq "not"
        have h5 := qo "some" "all"
        by_cases W1 : w = .str "less" ∨ w = .str "same"
        · have t1 : (w.eqb (.str "less") || w.eqb (.str "same")) = true := by rcases W1 with rfl | rfl <;> decide
          rw [t1] at h2
          rcases r with _ | ⟨x, _ | ⟨y, _ | ⟨z, r⟩⟩⟩
          · refine fin (b := false) (ite_ret (by simp) h2 (by simp) (by simp [eval, args, argOf, Arg.peek, peeks])) rfl ?_
            rcases W1 with rfl | rfl <;> rw [isF_1] <;> simp
          · refine fin (b := false) (ite_ret (by simp) h2 (by simp) (by simp [eval, args, argOf, Arg.peek, peeks])) rfl ?_
            rcases W1 with rfl | rfl <;> rw [isF_2] <;> simp
          · refine fin (b := isTm m x && isTm m y) (ite_ret (by simp) h2 (by simp) ?_) rfl ?_
            · cases hx : isTm m x <;> simp [eval, args, argOf, Arg.peek, peeks, doCall, takes, bT, f13, cC, tm, hx]
            · rcases W1 with rfl | rfl <;> rw [isF_3] <;> simp
          · have l3 : ¬ ((r.length : Int) + 1 + 1 + 1 + 1 = 3) := by omega
            refine fin (b := false) (ite_ret (by simp) h2 (by simp) (by simp [eval, args, argOf, Arg.peek, peeks, l3])) rfl ?_
            rcases W1 with rfl | rfl <;> rfl
        · have t1 : (w.eqb (.str "less") || w.eqb (.str "same")) = false := by
            rw [Bool.or_eq_false_iff]
            exact ⟨Bool.eq_false_iff.mpr fun z => W1 (.inl (eqb_str.mp z)), Bool.eq_false_iff.mpr fun z => W1 (.inr (eqb_str.mp z))⟩
          rw [t1] at h2
          rw [ite_no (by simp) h2]
          by_cases W2 : w = .str "both" ∨ w = .str "either"
          · have t2 : (w.eqb (.str "both") || w.eqb (.str "either")) = true := by rcases W2 with rfl | rfl <;> decide
            rw [t2] at h3
            rw [ite_go (by simp) h3]
            have fin2 : ∀ {b : Bool} {res : Res Fl} {k0 : Bool} {g : Fl → Env → Res Fl}, res = .ok (.rt (.bl b) k0) [.sh (.int m), .sh (.tup (w :: r)), .sh w, .no] → k0 = false → b = isF (k + 1 + 1) m (.tup (w :: r)) → outF 2 (res.bind fun f env1 => match f with | .nx => g f env1 | f => .ok f env1) = .ok (.bl (isF (k + 1 + 1) m (.tup (w :: r)))) false [.sh (.int m), .sh (.tup (w :: r))] := by
              intro b res k0 g h1 h2 h3; subst h1 h2 h3; rfl
            rcases r with _ | ⟨x, _ | ⟨y, r⟩⟩
            · refine fin2 (b := false) (g := fun f e => execs LL _ e) (ite_ret (fr := false) (by simp) (by simp [eval, args, argOf, Arg.peek, peeks]) (by simp) rfl) rfl ?_
              rcases W2 with rfl | rfl <;> rw [isF_1] <;> simp
            · have hx : x.depth ≤ k := by rw [depths_cons] at hd; omega
              have hfx : D.fine x := by have h := hf.2; simp only [D.fines] at h; exact h.2.1
              have hx64 : x.depth ≤ 64 := by omega
              have q1 : cmpD .eq x (.tup []) = some (x.eqb (.tup [])) := cmpD_eq hx64 (by simp [D.depth, D.depths])
              cases x with
              | tup ys =>
                rcases ys with _ | ⟨y, ys⟩
                · refine fin2 (b := false) (g := fun f e => execs LL _ e) (ite_ret (fr := false) (by simp) (by simp [eval, evals, args, argOf, Arg.peek, peeks, doCall, takes, bU, f3, cC, tp, q1, D.eqb, D.eqbs]) (by simp) rfl) rfl ?_
                  rcases W2 with rfl | rfl <;> rw [isF_2] <;> simp
                · rw [depth_tup] at hx
                  simp only [D.fine] at hfx
                  have qe : (D.tup (y :: ys)).eqb (.tup []) = false := by simp [D.eqb, D.eqbs]
                  rw [qe] at q1
                  refine fin2 (b := (y :: ys).all (isF (k + 1) m)) (k0 := false) (g := fun f e => execs LL _ e) ?_ rfl ?_
                  · rw [ite_no (fr := false) (env' := [.sh (.int m), .sh (.tup (w :: [.tup (y :: ys)])), .sh w, .no]) (by simp) (by simp [eval, evals, args, argOf, Arg.peek, peeks, doCall, takes, bU, f3, cC, tp, q1])]
                    rcases W2 with rfl | rfl
                    · exact ss_rt (ret_of (by simp) (lcq m (.sh (.str "both")) "both" (y :: ys) [] (Nat.le_trans hfx.1 (by decide)) (fun z hz => by have := depths_mem hz; omega) hfx.2))
                    · exact ss_rt (ret_of (by simp) (lcq m (.sh (.str "either")) "either" (y :: ys) [] (Nat.le_trans hfx.1 (by decide)) (fun z hz => by have := depths_mem hz; omega) hfx.2))
                  · rcases W2 with rfl | rfl <;> (rw [isF_2, if_pos (by simp)]; try rfl)
              | _ =>
                refine fin2 (b := false) (g := fun f e => execs LL _ e) (ite_ret (fr := false) (by simp) (by simp [eval, evals, args, argOf, Arg.peek, peeks, doCall, takes, bU, f3, cC, tp]) (by simp) rfl) rfl ?_
                rcases W2 with rfl | rfl <;> rw [isF_2] <;> simp
            · have l2 : ¬ ((r.length : Int) + 1 + 1 + 1 = 2) := by omega
              refine fin2 (b := false) (g := fun f e => execs LL _ e) (ite_ret (fr := false) (by simp) (by simp [eval, args, argOf, Arg.peek, peeks, l2]) (by simp) rfl) rfl ?_
              rcases r with _ | ⟨z, r⟩ <;> rcases W2 with rfl | rfl <;> first | rfl | (rw [isF_3]; simp)
          · have t2 : (w.eqb (.str "both") || w.eqb (.str "either")) = false := by
              rw [Bool.or_eq_false_iff]
              exact ⟨Bool.eq_false_iff.mpr fun z => W2 (.inl (eqb_str.mp z)), Bool.eq_false_iff.mpr fun z => W2 (.inr (eqb_str.mp z))⟩
            rw [t2] at h3
            rw [ite_no (by simp) h3]
            by_cases W3 : w = .str "not"
            · subst W3
              have t3 : (D.str "not").eqb (.str "not") = true := by decide
              rw [t3] at h4
              rcases r with _ | ⟨x, _ | ⟨y, r⟩⟩
              · exact fin (b := false) (ite_ret (by simp) h4 (by simp) (by simp [eval, args, argOf, Arg.peek, peeks])) rfl (by rw [isF_1]; simp)
              · have hx : x.depth ≤ k := by rw [depths_cons] at hd; omega
                have hfx : D.fine x := by have h := hf.2; simp only [D.fines] at h; exact h.2.1
                exact fin (b := isF (k + 1) m x) (ite_ret (by simp) h4 (by simp) (by simp [eval, args, argOf, Arg.peek, peeks, doCall, takes, bF, f18, cC, ih' m x hx hfx])) rfl (by rw [isF_2]; simp)
              · have l2 : ¬ ((r.length : Int) + 1 + 1 + 1 = 2) := by omega
                refine fin (b := false) (ite_ret (by simp) h4 (by simp) (by simp [eval, args, argOf, Arg.peek, peeks, l2])) rfl ?_
                rcases r with _ | ⟨z, r⟩ <;> first | rfl | (rw [isF_3]; simp)
            · have t3 : w.eqb (.str "not") = false := Bool.eq_false_iff.mpr fun z => W3 (eqb_str.mp z)
              rw [t3] at h4
              rw [ite_no (by simp) h4]
              by_cases W4 : w = .str "some" ∨ w = .str "all"
              · have t4 : (w.eqb (.str "some") || w.eqb (.str "all")) = true := by rcases W4 with rfl | rfl <;> decide
                rw [t4] at h5
                rcases r with _ | ⟨x, _ | ⟨y, r⟩⟩
                · refine fin (b := false) (ite_ret (by simp) h5 (by simp) (by simp [eval, args, argOf, Arg.peek, peeks])) rfl ?_
                  rcases W4 with rfl | rfl <;> rw [isF_1] <;> simp
                · have hx : x.depth ≤ k := by rw [depths_cons] at hd; omega
                  have hfx : D.fine x := by have h := hf.2; simp only [D.fines] at h; exact h.2.1
                  refine fin (b := isF (k + 1) (m + 1) x) (ite_ret (by simp) h5 (by simp) (by simp [eval, args, argOf, Arg.peek, peeks, doCall, takes, bF, f18, cC, ih' (m + 1) x hx hfx])) rfl ?_
                  rcases W4 with rfl | rfl <;> rw [isF_2] <;> simp
                · have l2 : ¬ ((r.length : Int) + 1 + 1 + 1 = 2) := by omega
                  refine fin (b := false) (ite_ret (by simp) h5 (by simp) (by simp [eval, args, argOf, Arg.peek, peeks, l2])) rfl ?_
                  rcases r with _ | ⟨z, r⟩ <;> rcases W4 with rfl | rfl <;> first | rfl | (rw [isF_3]; simp)
              · have t4 : (w.eqb (.str "some") || w.eqb (.str "all")) = false := by
                  rw [Bool.or_eq_false_iff]
                  exact ⟨Bool.eq_false_iff.mpr fun z => W4 (.inl (eqb_str.mp z)), Bool.eq_false_iff.mpr fun z => W4 (.inr (eqb_str.mp z))⟩
                rw [t4] at h5
                rw [ite_no (by simp) h5]
                refine fin (b := (w.eqb (.str "yes") && r.isEmpty)) (ss_rt (ret_of (by simp) (by simp [eval, argOf, Arg.peek, cy, qy]))) rfl ?_
                cases w with
                | str w =>
                  simp only [D.str.injEq, not_or] at W1 W2 W3 W4
                  have qs : (D.str w).eqb (.str "yes") = decide (w = "yes") := by simp only [D.eqb]; by_cases h : w = "yes" <;> simp [h]
                  rcases r with _ | ⟨x, _ | ⟨y, _ | ⟨z, r⟩⟩⟩
                  · rw [isF_1, qs]; simp
                  · rw [isF_2]; simp [W2, W3, W4]
                  · rw [isF_3]; simp [W1]
                  · have : isF (k + 1 + 1) m (.tup (.str w :: x :: y :: z :: r)) = false := rfl
                    rw [this]; simp
                | _ => simp [D.eqb, isF]
    | _ =>
      rw [callF_of g_is_formula_in rfl rfl]
      rfl
end Vk21


set_option Elab.async false
set_option linter.all false
set_option maxRecDepth 100000
set_option maxHeartbeats 4000000
namespace Vk21
open Pi Lk21
theorem c_check_count (n : Nat) (d : D) : callF P (n + 3) 4 [.sh d] = if (match d with | .int i => decide (0 ≤ i) | _ => false) = true then .ok .non false [.sh d] else .ex ⟨1, none⟩ := by
  cases d <;> first | rfl | skip
  rename_i i
  rw [callF_of g_check_count rfl rfl]
  have e := c_is_from n 0 (.int i)
  by_cases h : 0 ≤ i <;> simp [f4, b4, execs, exec, eval, argOf, Arg.peek, pureR, args, peeks, outF, doCall, takes, gives, lib_bor g_is_from, f1, e, h]
theorem c_l_constants (n : Nat) (p : D) (m : Int) (many : Int) (hp : Pou m p) (hm : m ≤ 80000) (h0 : 0 ≤ many) (h1 : many ≤ 100) : ∃ (l : List Nu) (p' : D), (l.length : Int) ≤ many ∧ (∀ q ∈ l, NmP q) ∧ Pou (m + 3 * many + 1) p' ∧
    callF P (n + 4) 33 [.ow false p, .sh (.int many)] = .ok (.tup ((srt l).map nD)) false [.ow false p', .sh (.int many)] := by
  obtain ⟨r, p1, r0, r1, hp1, e1⟩ := c_l_scoop (n + 2) p m (many + 1) hp (by omega) (by omega) (by omega)
  obtain ⟨k, rfl⟩ : ∃ k : Nat, r = k := ⟨r.toNat, by omega⟩
  have e1 : callF P (n + 3) 26 [.ow false p, .sh (.int (many + 1))] = _ := e1
  have bS : (P.lib (callF P (n + 3))).bor 26 = f26.bor := lib_bor g_l_scoop _
  have bN : (P.lib (callF P (n + 3))).bor 32 = f32.bor := lib_bor g_l_number _
  have hi : (args (P.lib (callF P (n + 3))) [.call 26 [.var 0, .bin .add (.var 1) (.con (.int 1))] [0, 1]] [.ow false p, .sh (.int many), .no]).bind (walkB .range) = .ok (rangeD 0 k) [.ow false p1, .sh (.int many), .no] := by
    have ha : args (P.lib (callF P (n + 3))) [.call 26 [.var 0, .bin .add (.var 1) (.con (.int 1))] [0, 1]] [.ow false p, .sh (.int many), .no] = .ok [.val (.int (k : Nat))] [.ow false p1, .sh (.int many), .no] := by
      simp [args, eval, argOf, Arg.peek, doCall, takes, gives, bS, f26, e1]
    rw [ha, Res.bind_ok]
    have := iterD_range (i := (k : Int)) (by omega) (by omega)
    rw [Int.toNat_natCast] at this
    exact walkB_of (ds := [.int k]) rfl this
  have lc := Ok_lc (f := fun d e => match (Tg.name 2).store d false e with
            | none => .bad
            | some e1 => (holds (P.lib (callF P (n + 3))) [] e1).bind fun b e2 => if b then (eval (P.lib (callF P (n + 3))) (.call 32 [.var 0] [0]) e2).bind fun r e3 => .ok (some r.1) (wipeE e3 [2]) else .ok none (wipeE e2 [2]))
    (fun j ds env => ∃ (l : List Nu) (q : D), ds = l.map nD ∧ l.length = j ∧ (∀ q ∈ l, NmP q) ∧ Pou (m + 1 + 3 * j) q ∧ env = [.ow false q, .sh (.int many), .no])
    (items := rangeD 0 k) (env := [.ow false p1, .sh (.int many), .no]) (by rw [rangeD_len]; omega) ⟨[], p1, rfl, rfl, by simp, by simpa using hp1, rfl⟩ fun j hj acc env hl ⟨l, q, ha, hl2, hl3, hq, he⟩ => by
      subst he ha
      rw [rangeD_len] at hj
      obtain ⟨a, b, q2, hn, hq2, e2⟩ := c_l_number (n + 1) q (m + 1 + 3 * j) hq (by omega)
      have e2 : callF P (n + 3) 32 [.ow false q] = _ := e2
      refine Ok.of (a := some (num a b)) (e := [.ow false q2, .sh (.int many), .no]) (by simp [Tg.store, holds, eval, args, argOf, Arg.peek, doCall, takes, gives, bN, f32, e2, wipeE]) ⟨_, rfl, l ++ [(a, b)], q2, by simp, by simp [hl2], fun x hx => ?_, hq2.le (by omega), rfl⟩
      rcases List.mem_append.mp hx with h | h
      · exact hl3 x h
      · rw [List.mem_singleton] at h; subst h; exact hn
  obtain ⟨ds, env2, h2, h3, l, q, rfl, hl, hl3, hq, rfl⟩ := lc.ex
  rw [rangeD_len] at hl h3 hq
  have lcE := lc_of (L := P.lib (callF P (n + 3))) (elt := .call 32 [.var 0] [0]) (own := [2]) (tg := .name 2) (conds := []) hi h2
  have e3 := c_l_sorted (n + 1) l (by omega) (fun q hq => (nm_nb (hl3 q hq)).le (by decide))
  have e3 : callF P (n + 3) 31 [.sh (.lst (l.map nD))] = _ := e3
  have b1 := call_one (f := 31) (by simp) lcE
  have e4 : doCall (P.lib (callF P (n + 3))) 31 [.val (.lst (l.map nD))] [0] (backE [.ow false p1, .sh (.int many), .no] [.ow false q, .sh (.int many), .no] [2]) = .ok (.lst ((srt l).map nD), true) [.ow false q, .sh (.int many), .no] := by
    simp [doCall, takes, gives, lib_bor g_l_sorted, f31, e3, backE]
  rw [e4] at b1
  have b2 := bi_one (f := .tuple) (by simp) b1
  refine ⟨l, q, by omega, hl3, hq.le (by omega), ?_⟩
  rw [callF_of g_l_constants rfl rfl]
  show outF 2 (execs (P.lib (callF P (n + 3))) [.ret (.bi .tuple [.call 31 [.lc (.call 32 [.var 0] [0]) [2] (.name 2) .range [.call 26 [.var 0, .bin .add (.var 1) (.con (.int 1))] [0, 1]] []] [0]])] [.ow false p, .sh (.int many), .no]) = _
  rw [ss_rt (ret_of (by simp) b2)]
  rfl
theorem c_l_term (n : Nat) (p : D) (m : Int) (names : Int) (cs : List Nu) (hp : Pou m p) (hm : m ≤ 90000) (h0 : 0 ≤ names) (h1 : names ≤ 100) (hc : ∀ q ∈ cs, NmP q) (hl : cs.length ≤ 100) : ∃ (d : D) (p' : D), Tq ((0, 1) :: cs) names d ∧ Pou (m + 1) p' ∧
    callF P (n + 3) 34 [.ow false p, .sh (.int names), .sh (.tup (cs.map nD))] = .ok d false [.ow false p', .sh (.int names), .sh (.tup (cs.map nD))] := by
  obtain ⟨k, rfl⟩ : ∃ k : Nat, names = k := ⟨names.toNat, by omega⟩
  have it := iterD_range (i := (k : Int)) (by omega) (by omega)
  rw [Int.toNat_natCast] at it
  have rl : (rangeD 0 k).length = k := rangeD_len
  generalize hrows : (rangeD 0 k ++ rangeD 0 k) ++ cs.map nD = rows
  have hz : rows.length = k + k + cs.length := by rw [← hrows]; simp only [List.length_append, List.length_map, rl]
  have e1 : exec (P.lib (callF P (n + 2))) (.asg (.name 3) (.bin .add (.bin .add (.rng false [.var 1]) (.rng false [.var 1])) (.bi .list [.var 2]))) [.ow false p, .sh (.int k), .sh (.tup (cs.map nD)), .no] = .ok .nx [.ow false p, .sh (.int k), .sh (.tup (cs.map nD)), .ow true (.lst rows)] := by
    have h1 : k ≤ 100000 := by omega
    have h2 : k + k ≤ 100000 := by omega
    have h3 : k + k + cs.length ≤ 100000 := by omega
    have ev : evals (P.lib (callF P (n + 2))) [.var 1] [.ow false p, .sh (.int k), .sh (.tup (cs.map nD)), .no] = .ok [.int k] [.ow false p, .sh (.int k), .sh (.tup (cs.map nD)), .no] := rfl
    have er : eval (P.lib (callF P (n + 2))) (.rng false [.var 1]) [.ow false p, .sh (.int k), .sh (.tup (cs.map nD)), .no] = .ok (.lst (rangeD 0 k), true) [.ow false p, .sh (.int k), .sh (.tup (cs.map nD)), .no] := by
      rw [eval, ev, Res.bind_ok, it, Option.bind_some, rl, if_pos h1]; rfl
    have el : eval (P.lib (callF P (n + 2))) (.bi .list [.var 2]) [.ow false p, .sh (.int k), .sh (.tup (cs.map nD)), .no] = .ok (.lst (cs.map nD), true) [.ow false p, .sh (.int k), .sh (.tup (cs.map nD)), .no] := rfl
    have a1 := bin_of (o := .add) (by simp) (by simp) er er (opD_lst (by rw [rl]; exact h2))
    have a2 := bin_of (o := .add) (by simp) (by simp) a1 el (opD_lst (by rw [List.length_append, rl, List.length_map]; exact h3))
    rw [exec, a2, hrows]
    rfl
  have hne : cmpD .ne (.lst rows) (.lst []) = some (!rows.isEmpty) := by
    have hd : D.depths rows ≤ 1 := by
      rw [← hrows]
      have : ∀ xs ys : List D, D.depths xs ≤ 1 → D.depths ys ≤ 1 → D.depths (xs ++ ys) ≤ 1 := by
        intro xs ys h1 h2
        induction xs with
        | nil => simpa using h2
        | cons x xs ih => simp only [List.cons_append, D.depths] at h1 ⊢; have := ih (by omega); omega
      have hr : D.depths (rangeD 0 k) ≤ 1 := by
        unfold rangeD
        induction List.range k with
        | nil => simp [D.depths]
        | cons a r ih => simp only [List.map_cons, D.depths, D.depth]; omega
      exact this _ _ (this _ _ hr hr) (nD_depths cs)
    rw [cmpD_ne (by simp only [D.depth]; omega) (by simp [D.depth, D.depths])]
    cases rows <;> simp [D.eqb, D.eqbs]
  by_cases hr : rows = []
  · refine ⟨num 0 1, p, .inr ⟨(0, 1), List.mem_cons_self, rfl⟩, hp.le (by omega), ?_⟩
    rw [callF_of g_l_term rfl rfl]
    show outF 3 (execs (P.lib (callF P (n + 2))) [.asg (.name 3) (.bin .add (.bin .add (.rng false [.var 1]) (.rng false [.var 1])) (.bi .list [.var 2])), .ret (.ite (.cmp .ne (.var 3) (.lst [])) (.call 27 [.var 0, .var 3] [0, 1]) (.tup [.con (.int 0), .con (.int 1)]))] [.ow false p, .sh (.int k), .sh (.tup (cs.map nD)), .no]) = _
    rw [ss_nx e1]
    subst hr
    simp [execs, exec, eval, evals, argOf, Arg.peek, hne, outF]
  · obtain ⟨d, p', hd, hp', e2⟩ := c_l_pickO n p m rows hp (by omega) hr (by omega)
    refine ⟨d, p', ?_, hp', ?_⟩
    · rw [← hrows, List.mem_append, List.mem_append] at hd
      rcases hd with (hd | hd) | hd
      · obtain ⟨j, hj, rfl⟩ := rangeD_mem hd
        exact .inl ⟨_, rfl, by omega, by omega⟩
      · obtain ⟨j, hj, rfl⟩ := rangeD_mem hd
        exact .inl ⟨_, rfl, by omega, by omega⟩
      · obtain ⟨q, hq, rfl⟩ := List.mem_map.mp hd
        exact .inr ⟨q, List.mem_cons_of_mem _ hq, rfl⟩
    · rw [callF_of g_l_term rfl rfl]
      show outF 3 (execs (P.lib (callF P (n + 2))) [.asg (.name 3) (.bin .add (.bin .add (.rng false [.var 1]) (.rng false [.var 1])) (.bi .list [.var 2])), .ret (.ite (.cmp .ne (.var 3) (.lst [])) (.call 27 [.var 0, .var 3] [0, 1]) (.tup [.con (.int 0), .con (.int 1)]))] [.ow false p, .sh (.int k), .sh (.tup (cs.map nD)), .no]) = _
      rw [ss_nx e1]
      have hre : rows.isEmpty = false := by cases rows <;> simp at hr ⊢
      have bP : (P.lib (callF P (n + 2))).bor 27 = f27.bor := lib_bor g_l_pick _
      simp [execs, exec, eval, evals, args, argOf, Arg.peek, hne, hre, outF, doCall, takes, gives, bP, f27, e2]
theorem c_l_weight (n : Nat) (names : Int) (d : D) (h : Fm names d) : ∀ k, d.depth ≤ k → ∃ w : Int, 1 ≤ w ∧ callF P (n + k + 1) 36 [.sh d] = .ok (.int w) false [.sh d] := by
  have wi : ∀ (w : PySem.Str) (ys : List D), D.depths ys ≤ 63 → cmpD .isin (.str w) (.tup ys) = some (ys.any fun y => y.eqb (.str w)) := fun w ys h => if_pos ⟨by simp [D.depth], h⟩
  have eb : ∀ s w : PySem.Str, (D.str s).eqb (.str w) = decide (s = w) := fun s w => by simp only [D.eqb]; by_cases h : s = w <;> simp [h]
  induction h with
  | yes m =>
    intro k hk
    refine ⟨1, by decide, ?_⟩
    rw [callF_of g_l_weight rfl rfl]
    rfl
  | cmp m w a b hw ha hb =>
    intro k hk
    refine ⟨1, by decide, ?_⟩
    rw [callF_of g_l_weight rfl rfl]
    rcases hw with rfl | rfl <;> rfl
  | not m x h ih =>
    intro k hk
    rw [depth_tup, depths_cons, depths_cons] at hk
    obtain ⟨j, rfl⟩ : ∃ j, k = j + 1 := ⟨k - 1, by omega⟩
    obtain ⟨w, h1, e⟩ := ih j (by omega)
    have e : callF P (n + (j + 1)) 36 [.sh x] = _ := e
    refine ⟨1 + w, by omega, ?_⟩
    rw [callF_of g_l_weight rfl rfl]
    simp [f36, b36, execs, exec, eval, evals, args, argOf, Arg.peek, outF, wi, eb, D.depths, D.depth, doCall, takes, gives, lib_bor g_l_weight, e]
  | qu m v x hv h ih =>
    intro k hk
    rw [depth_tup, depths_cons, depths_cons] at hk
    obtain ⟨j, rfl⟩ : ∃ j, k = j + 1 := ⟨k - 1, by omega⟩
    obtain ⟨w, h1, e⟩ := ih j (by omega)
    have e : callF P (n + (j + 1)) 36 [.sh x] = _ := e
    refine ⟨1 + w, by omega, ?_⟩
    rw [callF_of g_l_weight rfl rfl]
    rcases hv with rfl | rfl <;> simp [f36, b36, execs, exec, eval, evals, args, argOf, Arg.peek, outF, wi, eb, D.depths, D.depth, doCall, takes, gives, lib_bor g_l_weight, e]
  | lst m v ys hv h0 hz h ih =>
    intro k hk
    rw [depth_tup, depths_cons, depths_cons, depth_tup] at hk
    obtain ⟨j, rfl⟩ : ∃ j, k = j + 1 := ⟨k - 1, by omega⟩
    have hall : ∀ y ∈ ys, ∃ w : Int, 1 ≤ w ∧ callF P (n + (j + 1)) 36 [.sh y] = .ok (.int w) false [.sh y] := fun y hy => ih y hy j (by have := depths_mem hy; omega)
    have hex : ∀ y, ∃ w : Int, y ∈ ys → 1 ≤ w ∧ callF P (n + (j + 1)) 36 [.sh y] = .ok (.int w) false [.sh y] := fun y => by
      by_cases hy : y ∈ ys
      · obtain ⟨w, hw⟩ := hall y hy
        exact ⟨w, fun _ => hw⟩
      · exact ⟨0, fun z => absurd z hy⟩
    have hch : ∃ W : D → Int, ∀ y ∈ ys, 1 ≤ W y ∧ callF P (n + (j + 1)) 36 [.sh y] = .ok (.int (W y)) false [.sh y] := ⟨fun y => (hex y).choose, fun y hy => (hex y).choose_spec hy⟩
    clear hex
    obtain ⟨W, hW⟩ := hch
    refine ⟨1 + (ys.map W).sum, ?_, ?_⟩
    · have : 0 ≤ (ys.map W).sum := by
        clear hk h0 hz h ih hall
        induction ys with
        | nil => simp
        | cons y ys ih =>
          have h1 := (hW y List.mem_cons_self).1
          have := ih fun z hz => hW z (List.mem_cons_of_mem _ hz)
          simp only [List.map_cons, List.sum_cons]
          omega
      omega
    · have hi : (args (P.lib (callF P (n + (j + 1)))) [.ix (.var 0) (.con (.int 1))] [.sh (.tup [.str v, .tup ys]), .no]).bind (walkB .seq) = .ok ys [.sh (.tup [.str v, .tup ys]), .no] := walk_seq (fr := false) (by simp) (.inl (by simp [eval, argOf, Arg.peek]))
      have lc := lc_map (elt := .call 36 [.var 1] [0]) (own := [1]) (tg := .name 1) (fun y => .int (W y)) hi (Nat.le_trans hz (by decide)) fun y hy => ⟨_, [.sh (.tup [.str v, .tup ys]), .sh y], false, rfl, by
        have e := (hW y hy).2
        simp [wipeE, eval, args, argOf, Arg.peek, doCall, takes, lib_bor g_l_weight, f36, e], rfl⟩
      have b1 := bi_one (f := .sum) (by simp) lc
      have ai : ∀ l : List D, allInts (l.map fun y => D.int (W y)) = some (l.map W) := by
        intro l
        induction l with
        | nil => rfl
        | cons y l ih => simp only [List.map_cons, allInts, ih, Option.map_some]
      rw [biD_sum, ai, Option.map_some, pureR_some] at b1
      have b2 : eval (P.lib (callF P (n + (j + 1)))) (.bin .add (.con (.int 1)) (.bi .sum [.lc (.call 36 [.var 1] [0]) [1] (.name 1) .seq [.ix (.var 0) (.con (.int 1))] []])) [.sh (.tup [.str v, .tup ys]), .no] = .ok (.int (1 + (ys.map W).sum), false) [.sh (.tup [.str v, .tup ys]), .no] := by
        exact bin_of (o := .add) (x := .int 1) (f1 := false) (by simp) (by simp) rfl b1 opD_add
      rw [callF_of g_l_weight rfl rfl]
      show outF 1 (execs (P.lib (callF P (n + (j + 1)))) [.ite (.cmp .isin (.ix (.var 0) (.con (.int 0))) (.tup [.con (.str "both"), .con (.str "either")])) [.ret (.bin .add (.con (.int 1)) (.bi .sum [.lc (.call 36 [.var 1] [0]) [1] (.name 1) .seq [.ix (.var 0) (.con (.int 1))] []]))] [], .ret (.ite (.cmp .isin (.ix (.var 0) (.con (.int 0))) (.tup [.con (.str "not"), .con (.str "some"), .con (.str "all")])) (.bin .add (.con (.int 1)) (.call 36 [.ix (.var 0) (.con (.int 1))] [0])) (.con (.int 1)))] [.sh (.tup [.str v, .tup ys]), .no]) = _
      rw [ite_ret (fr := false) (by simp) ?_ (by simp) b2]
      · rfl
      · rcases hv with rfl | rfl <;> simp [eval, evals, args, argOf, Arg.peek, wi, eb, D.depths, D.depth]
end Vk21


set_option Elab.async false
set_option linter.all false
set_option maxRecDepth 100000
set_option maxHeartbeats 4000000
namespace Vk21
open Pi Lk21
/-- what is drawn is a formula -/
def DrawnF (n N : Nat) : Prop := ∀ (most : Nat), most ≤ N → 1 ≤ most → ∀ (names deep m : Int) (p : D) (cs : List Nu), Pou m p → m + dB most ≤ 70000 → 0 ≤ names → names + deep ≤ 60 → 0 ≤ deep → (∀ q ∈ cs, NmP q) → cs.length ≤ 100 →
    ∃ f p', Fq ((0, 1) :: cs) deep.toNat names f ∧ f.depth ≤ 2 * most + 1 ∧ Pou (m + dB most) p' ∧
      callF P n 35 [.ow false p, .sh (.int names), .sh (.tup (cs.map nD)), .sh (.int most), .sh (.int deep)] = .ok f false [.ow false p', .sh (.int names), .sh (.tup (cs.map nD)), .sh (.int most), .sh (.int deep)]
theorem nm01 : NmP ((0, 1) : Nu) := ⟨by decide, by decide, by decide, by decide⟩
theorem nm_pool {cs : List Nu} (hc : ∀ q ∈ cs, NmP q) : ∀ q ∈ ((0, 1) : Nu) :: cs, NmP q := fun q hq => by
  rcases List.mem_cons.mp hq with rfl | hq
  · exact nm01
  · exact hc q hq
theorem formula_body (n N : Nat) (most : Nat) (hN : N + 1 = most) (hm8 : most ≤ 8) (ih : DrawnF (n + 20) N) (names deep m : Int) (x5 y8 : Sl) (q : D) (cs : List Nu) (hc : ∀ q ∈ cs, NmP q) (hl : cs.length ≤ 100) (h0 : 0 ≤ names) (hnd : names + deep ≤ 60) (hd : 0 ≤ deep)
    (parts : List D) (left : Int) (hq : Pou m q) (hm : m + dB N ≤ 70000) (hp : ∀ y ∈ parts, Fq ((0, 1) :: cs) deep.toNat names y ∧ y.depth ≤ 2 * N + 1) (hpl : parts.length ≤ 50) (hleft : left ≤ N) :
    ∃ (parts' : List D) (left' : Int) (q' : D), (∀ y ∈ parts', Fq ((0, 1) :: cs) deep.toNat names y ∧ y.depth ≤ 2 * N + 1) ∧ parts'.length ≤ parts.length + 1 ∧ left' ≤ N ∧ Pou (m + dB N) q' ∧ (parts ≠ [] ∨ 0 < left → parts' ≠ []) ∧
    execs (P.lib (callF P (n + 20))) [.ite (.cmp .gt (.var 7) (.con (.int 0))) [.app 6 (.call 35 [.var 0, .var 1, .var 2, .var 7, .var 4] [0, 1, 2, 3, 4]), .asg (.name 7) (.bin .sub (.var 7) (.call 36 [.ix (.var 6) (.neg (.con (.int 1)))] [0]))] []]
      [.ow false q, .sh (.int names), .sh (.tup (cs.map nD)), .sh (.int most), .sh (.int deep), x5, .ow true (.lst parts), .sh (.int left), y8] = .ok .nx [.ow false q', .sh (.int names), .sh (.tup (cs.map nD)), .sh (.int most), .sh (.int deep), x5, .ow true (.lst parts'), .sh (.int left'), y8] := by
  by_cases hlf : 0 < left
  · obtain ⟨k, rfl⟩ : ∃ k : Nat, left = k := ⟨left.toNat, by omega⟩
    have hB := dB_le (show k ≤ N by omega)
    obtain ⟨f, q', hf, hfd, hq', e⟩ := ih k (by omega) (by omega) names deep m q cs hq (by omega) h0 hnd hd hc hl
    obtain ⟨w, hw, e2⟩ := c_l_weight (n + 2) names f (hf.fm (nm_pool hc)) 17 (by omega)
    have e2 : callF P (n + 20) 36 [.sh f] = .ok (.int w) false [.sh f] := e2
    refine ⟨parts ++ [f], k - w, q', fun y hy => ?_, by simp, by omega, hq'.le (by omega), by simp, ?_⟩
    · rcases List.mem_append.mp hy with h | h
      · exact hp y h
      · rw [List.mem_singleton] at h; subst h; exact ⟨hf, by omega⟩
    · have hz : parts.length < 100000 := by omega
      have bF : (P.lib (callF P (n + 20))).bor 35 = f35.bor := lib_bor g_l_formula _
      have bW : (P.lib (callF P (n + 20))).bor 36 = f36.bor := lib_bor g_l_weight _
      have a1 : exec (P.lib (callF P (n + 20))) (.app 6 (.call 35 [.var 0, .var 1, .var 2, .var 7, .var 4] [0, 1, 2, 3, 4])) [.ow false q, .sh (.int names), .sh (.tup (cs.map nD)), .sh (.int most), .sh (.int deep), x5, .ow true (.lst parts), .sh (.int k), y8] = .ok .nx [.ow false q', .sh (.int names), .sh (.tup (cs.map nD)), .sh (.int most), .sh (.int deep), x5, .ow true (.lst (parts ++ [f])), .sh (.int k), y8] := by
        simp [exec, eval, args, argOf, Arg.peek, doCall, takes, gives, bF, f35, e, hz]
      have a2 : exec (P.lib (callF P (n + 20))) (.asg (.name 7) (.bin .sub (.var 7) (.call 36 [.ix (.var 6) (.neg (.con (.int 1)))] [0]))) [.ow false q', .sh (.int names), .sh (.tup (cs.map nD)), .sh (.int most), .sh (.int deep), x5, .ow true (.lst (parts ++ [f])), .sh (.int k), y8] = .ok .nx [.ow false q', .sh (.int names), .sh (.tup (cs.map nD)), .sh (.int most), .sh (.int deep), x5, .ow true (.lst (parts ++ [f])), .sh (.int (k - w)), y8] := by
        simp [exec, eval, args, argOf, Arg.peek, doCall, takes, gives, bW, f36, atI_last, e2, Tg.store]
      have hc1 : eval (P.lib (callF P (n + 20))) (.cmp .gt (.var 7) (.con (.int 0))) [.ow false q, .sh (.int names), .sh (.tup (cs.map nD)), .sh (.int most), .sh (.int deep), x5, .ow true (.lst parts), .sh (.int k), y8] = .ok (.bl true, false) [.ow false q, .sh (.int names), .sh (.tup (cs.map nD)), .sh (.int most), .sh (.int deep), x5, .ow true (.lst parts), .sh (.int k), y8] := by
        simp [eval, argOf, Arg.peek, hlf]; omega
      rw [ite_go (by simp) hc1, ss_nx a1, ss_nx a2, execs]
      rfl
  · refine ⟨parts, left, q, hp, by omega, hleft, hq.le (by have := dB_nn N; omega), fun h => h.resolve_right hlf, ?_⟩
    have hc1 : eval (P.lib (callF P (n + 20))) (.cmp .gt (.var 7) (.con (.int 0))) [.ow false q, .sh (.int names), .sh (.tup (cs.map nD)), .sh (.int most), .sh (.int deep), x5, .ow true (.lst parts), .sh (.int left), y8] = .ok (.bl false, false) [.ow false q, .sh (.int names), .sh (.tup (cs.map nD)), .sh (.int most), .sh (.int deep), x5, .ow true (.lst parts), .sh (.int left), y8] := by
      simp [eval, argOf, Arg.peek]; omega
    rw [ite_no (by simp) hc1, execs]
theorem c_l_formula : ∀ (N : Nat), N ≤ 8 → ∀ (n : Nat), DrawnF (n + 20 + N) N := by
  intro N
  induction N with
  | zero => intro _ n most h1 h2; omega
  | succ N ih =>
    intro hN n most h1 h2 names deep m p cs hp hm h0 hnd hd hc hl
    by_cases hsm : most ≤ N
    · have := ih (by omega) (n + 1) most hsm h2 names deep m p cs hp hm h0 hnd hd hc hl
      rw [show n + 1 + 20 + N = n + 20 + (N + 1) by omega] at this
      exact this
    · have hmost : most = N + 1 := by omega
      subst hmost
      have ihF : DrawnF (n + N + 20) N := by
        have := ih (by omega) n
        rw [show n + 20 + N = n + N + 20 by omega] at this
        exact this
      rw [show n + 20 + (N + 1) = n + N + 20 + 1 by omega]
      generalize n + N = F at *
      clear ih h1 h2 hsm
      have dBs : dB (N + 1) = 5 + 3 * dB N := rfl
      have dBn := dB_nn N
      rw [dBs] at hm ⊢
      have bS : (P.lib (callF P (F + 20))).bor 26 = f26.bor := lib_bor g_l_scoop _
      have bT : (P.lib (callF P (F + 20))).bor 34 = f34.bor := lib_bor g_l_term _
      have bF : (P.lib (callF P (F + 20))).bor 35 = f35.bor := lib_bor g_l_formula _
      have hw2 : (if N = 0 then (2 : Int) else 9) ≤ 9 ∧ 2 ≤ (if N = 0 then (2 : Int) else 9) := by split <;> decide
      obtain ⟨way, p1, w0, w1, hp1, e1⟩ := c_l_scoop (F + 19) p m (if N = 0 then 2 else 9) hp (by omega) (by omega) (by omega)
      have e1 : callF P (F + 20) 26 [.ow false p, .sh (.int (if N = 0 then 2 else 9))] = _ := e1
      obtain ⟨t1, p2, ht1, hp2, e2⟩ := c_l_term (F + 17) p1 (m + 1) names cs hp1 (by omega) h0 (by omega) hc hl
      obtain ⟨t2, p3, ht2, hp3, e3⟩ := c_l_term (F + 17) p2 (m + 1 + 1) names cs hp2 (by omega) h0 (by omega) hc hl
      have e2 : callF P (F + 20) 34 [.ow false p1, .sh (.int names), .sh (.tup (cs.map nD))] = _ := e2
      have e3 : callF P (F + 20) 34 [.ow false p2, .sh (.int names), .sh (.tup (cs.map nD))] = _ := e3
      rw [callF_of g_l_formula rfl rfl]
      show ∃ f p', _ ∧ _ ∧ _ ∧ outF 5 (execs (P.lib (callF P (F + 20))) [.asg (.name 5) (.call 26 [.var 0, .ite (.cmp .lt (.var 3) (.con (.int 2))) (.con (.int 2)) (.con (.int 9))] [0, 1]), .ite (.cmp .lt (.var 5) (.con (.int 2))) [.ret (.tup [.ix (.lst [.con (.str "less"), .con (.str "same")]) (.var 5), .call 34 [.var 0, .var 1, .var 2] [0, 1, 2], .call 34 [.var 0, .var 1, .var 2] [0, 1, 2]])] [], .ite (.cmp .eq (.var 5) (.con (.int 2))) [.ret (.ite (.cmp .eq (.call 26 [.var 0, .con (.int 3)] [0, 1]) (.con (.int 0))) (.tup [.con (.str "yes")]) (.tup [.con (.str "less"), .call 34 [.var 0, .var 1, .var 2] [0, 1, 2], .call 34 [.var 0, .var 1, .var 2] [0, 1, 2]]))] [], .ite (.cmp .eq (.var 5) (.con (.int 3))) [.ret (.tup [.con (.str "not"), .call 35 [.var 0, .var 1, .var 2, .bin .sub (.var 3) (.con (.int 1)), .var 4] [0, 1, 2, 3, 4]])] [], .ite (.and (.cmp .lt (.var 5) (.con (.int 6))) (.cmp .gt (.var 4) (.con (.int 0)))) [.ret (.tup [.ix (.lst [.con (.str "some"), .con (.str "all")]) (.bin .sub (.var 5) (.con (.int 4))), .call 35 [.var 0, .bin .add (.var 1) (.con (.int 1)), .var 2, .bin .sub (.var 3) (.con (.int 1)), .bin .sub (.var 4) (.con (.int 1))] [0, 1, 2, 3, 4]])] [], .par [6, 7] [.lst [], .bin .sub (.var 3) (.con (.int 1))], .fo (.name 8) .range [.bin .add (.con (.int 1)) (.call 26 [.var 0, .con (.int 3)] [0, 1])] [.ite (.cmp .gt (.var 7) (.con (.int 0))) [.app 6 (.call 35 [.var 0, .var 1, .var 2, .var 7, .var 4] [0, 1, 2, 3, 4]), .asg (.name 7) (.bin .sub (.var 7) (.call 36 [.ix (.var 6) (.neg (.con (.int 1)))] [0]))] []], .ret (.tup [.ix (.lst [.con (.str "both"), .con (.str "either")]) (.bin .mod (.bi .int [.var 5]) (.con (.int 2))), .bi .tuple [.var 6]])] [.ow false p, .sh (.int names), .sh (.tup (cs.map nD)), .sh (.int ((N + 1 : Nat) : Int)), .sh (.int deep), .no, .no, .no, .no]) = _
      generalize hMM : ((N + 1 : Nat) : Int) = MM at *
      have s0 : exec (P.lib (callF P (F + 20))) (.asg (.name 5) (.call 26 [.var 0, .ite (.cmp .lt (.var 3) (.con (.int 2))) (.con (.int 2)) (.con (.int 9))] [0, 1])) [.ow false p, .sh (.int names), .sh (.tup (cs.map nD)), .sh (.int MM), .sh (.int deep), .no, .no, .no, .no] = .ok .nx [.ow false p1, .sh (.int names), .sh (.tup (cs.map nD)), .sh (.int MM), .sh (.int deep), .sh (.int way), .no, .no, .no] := by
        by_cases hN0 : N = 0
        · have hlt : MM < 2 := by omega
          simp only [hN0, if_true] at e1
          simp [exec, eval, args, argOf, Arg.peek, doCall, takes, gives, bS, f26, hlt, e1, Tg.store]
        · have hlt : ¬ MM < 2 := by omega
          simp only [hN0, if_false] at e1
          simp [exec, eval, args, argOf, Arg.peek, doCall, takes, gives, bS, f26, hlt, e1, Tg.store]
      rw [ss_nx s0]
      have hc1 : ∀ k : Int, eval (P.lib (callF P (F + 20))) (.cmp .lt (.var 5) (.con (.int k))) [.ow false p1, .sh (.int names), .sh (.tup (cs.map nD)), .sh (.int MM), .sh (.int deep), .sh (.int way), .no, .no, .no] = .ok (.bl (decide (way < k)), false) [.ow false p1, .sh (.int names), .sh (.tup (cs.map nD)), .sh (.int MM), .sh (.int deep), .sh (.int way), .no, .no, .no] := fun k => by simp [eval, argOf, Arg.peek]
      have hc2 : ∀ k : Int, eval (P.lib (callF P (F + 20))) (.cmp .eq (.var 5) (.con (.int k))) [.ow false p1, .sh (.int names), .sh (.tup (cs.map nD)), .sh (.int MM), .sh (.int deep), .sh (.int way), .no, .no, .no] = .ok (.bl (decide (way = k)), false) [.ow false p1, .sh (.int names), .sh (.tup (cs.map nD)), .sh (.int MM), .sh (.int deep), .sh (.int way), .no, .no, .no] := fun k => by simp [eval, argOf, Arg.peek]
      by_cases h2 : way < 2
      · have hc1 := hc1 2
        rw [decide_eq_true h2] at hc1
        have hf : ∀ w : PySem.Str, (w = "less" ∨ w = "same") → Fq ((0, 1) :: cs) deep.toNat names (.tup [.str w, t1, t2]) ∧ (D.tup [.str w, t1, t2]).depth ≤ 2 * (N + 1) + 1 := fun w hw => ⟨.cmp _ _ _ _ _ hw ht1 ht2, by
          have := ht1.depth
          have := ht2.depth
          rw [depth_tup, depths_cons, depths_cons, depths_cons]
          simp only [D.depth, D.depths]
          omega⟩
        have hw : way = 0 ∨ way = 1 := by omega
        rcases hw with rfl | rfl
        · refine ⟨_, p3, (hf "less" (.inl rfl)).1, (hf "less" (.inl rfl)).2, hp3.le (by omega), ?_⟩
          rw [ite_ret (by simp) hc1 (d := .tup [.str "less", t1, t2]) (fr' := false) (env' := [.ow false p3, .sh (.int names), .sh (.tup (cs.map nD)), .sh (.int MM), .sh (.int deep), .sh (.int 0), .no, .no, .no]) (by simp) (by simp [eval, evals, args, argOf, Arg.peek, doCall, takes, gives, bT, f34, e2, e3])]
          rfl
        · refine ⟨_, p3, (hf "same" (.inr rfl)).1, (hf "same" (.inr rfl)).2, hp3.le (by omega), ?_⟩
          rw [ite_ret (by simp) hc1 (d := .tup [.str "same", t1, t2]) (fr' := false) (env' := [.ow false p3, .sh (.int names), .sh (.tup (cs.map nD)), .sh (.int MM), .sh (.int deep), .sh (.int 1), .no, .no, .no]) (by simp) (by simp [eval, evals, args, argOf, Arg.peek, doCall, takes, gives, bT, f34, e2, e3])]
          rfl
      · have hc1' := hc1 2
        rw [decide_eq_false h2] at hc1'
        rw [ite_no (by simp) hc1']
        have hN1 : 1 ≤ N := by
          by_cases hN0 : N = 0
          · simp only [hN0, if_true] at w1; omega
          · omega
        by_cases h22 : way = 2
        · have hc2 := hc2 2
          rw [decide_eq_true h22] at hc2
          obtain ⟨r, q1, r0, r1, hq1, e4⟩ := c_l_scoop (F + 19) p1 (m + 1) 3 hp1 (by omega) (by decide) (by decide)
          have e4 : callF P (F + 20) 26 [.ow false p1, .sh (.int 3)] = _ := e4
          by_cases hr : r = 0
          · subst hr h22
            refine ⟨.tup [.str "yes"], q1, .yes _ _, by simp [D.depth, D.depths], hq1.le (by omega), ?_⟩
            rw [ite_ret (by simp) hc2 (d := .tup [.str "yes"]) (fr' := false) (env' := [.ow false q1, .sh (.int names), .sh (.tup (cs.map nD)), .sh (.int MM), .sh (.int deep), .sh (.int 2), .no, .no, .no]) (by simp) (by simp [eval, evals, args, argOf, Arg.peek, doCall, takes, gives, bS, f26, e4])]
            rfl
          · obtain ⟨u1, q2, hu1, hq2, e5⟩ := c_l_term (F + 17) q1 (m + 1 + 1) names cs hq1 (by omega) h0 (by omega) hc hl
            obtain ⟨u2, q3, hu2, hq3, e6⟩ := c_l_term (F + 17) q2 (m + 1 + 1 + 1) names cs hq2 (by omega) h0 (by omega) hc hl
            have e5 : callF P (F + 20) 34 [.ow false q1, .sh (.int names), .sh (.tup (cs.map nD))] = _ := e5
            have e6 : callF P (F + 20) 34 [.ow false q2, .sh (.int names), .sh (.tup (cs.map nD))] = _ := e6
            subst h22
            refine ⟨.tup [.str "less", u1, u2], q3, .cmp _ _ _ _ _ (.inl rfl) hu1 hu2, ?_, hq3.le (by omega), ?_⟩
            · have := hu1.depth
              have := hu2.depth
              rw [depth_tup, depths_cons, depths_cons, depths_cons]
              simp only [D.depth, D.depths]
              omega
            rw [ite_ret (by simp) hc2 (d := .tup [.str "less", u1, u2]) (fr' := false) (env' := [.ow false q3, .sh (.int names), .sh (.tup (cs.map nD)), .sh (.int MM), .sh (.int deep), .sh (.int 2), .no, .no, .no]) (by simp) (by simp [eval, evals, args, argOf, Arg.peek, doCall, takes, gives, bS, f26, bT, f34, e4, e5, e6, hr])]
            rfl
        · have hc2' := hc2 2
          rw [decide_eq_false h22] at hc2'
          rw [ite_no (by simp) hc2']
          have hMN : MM - 1 = (N : Nat) := by omega
          by_cases h33 : way = 3
          · have hc2 := hc2 3
            rw [decide_eq_true h33] at hc2
            obtain ⟨f, q1, hf, hfd, hq1, e4⟩ := ihF N (by omega) hN1 names deep (m + 1) p1 cs hp1 (by omega) h0 hnd hd hc hl
            refine ⟨.tup [.str "not", f], q1, .not _ _ _ hf, ?_, hq1.le (by omega), ?_⟩
            · rw [depth_tup, depths_cons, depths_cons]
              simp only [D.depth, D.depths]
              omega
            rw [ite_ret (by simp) hc2 (d := .tup [.str "not", f]) (fr' := false) (env' := [.ow false q1, .sh (.int names), .sh (.tup (cs.map nD)), .sh (.int MM), .sh (.int deep), .sh (.int way), .no, .no, .no]) (by simp) (by simp [eval, evals, args, argOf, Arg.peek, doCall, takes, gives, bF, f35, hMN, e4])]
            rfl
          · have hc2' := hc2 3
            rw [decide_eq_false h33] at hc2'
            rw [ite_no (by simp) hc2']
            by_cases h44 : way < 6 ∧ 0 < deep
            · have hc4 : eval (P.lib (callF P (F + 20))) (.and (.cmp .lt (.var 5) (.con (.int 6))) (.cmp .gt (.var 4) (.con (.int 0)))) [.ow false p1, .sh (.int names), .sh (.tup (cs.map nD)), .sh (.int MM), .sh (.int deep), .sh (.int way), .no, .no, .no] = .ok (.bl true, false) [.ow false p1, .sh (.int names), .sh (.tup (cs.map nD)), .sh (.int MM), .sh (.int deep), .sh (.int way), .no, .no, .no] := by
                simp [eval, argOf, Arg.peek, h44.1, h44.2]
              obtain ⟨f, q1, hf, hfd, hq1, e4⟩ := ihF N (by omega) hN1 (names + 1) (deep - 1) (m + 1) p1 cs hp1 (by omega) (by omega) (by omega) (by omega) hc hl
              have hdq : (deep - 1).toNat + 1 = deep.toNat := by omega
              have hdp : ∀ w : PySem.Str, (D.tup [.str w, f]).depth ≤ 2 * (N + 1) + 1 := fun w => by
                rw [depth_tup, depths_cons, depths_cons]
                simp only [D.depth, D.depths]
                omega
              have hw : way = 4 ∨ way = 5 := by omega
              rcases hw with rfl | rfl
              · refine ⟨.tup [.str "some", f], q1, hdq ▸ .qu _ _ _ _ (.inl rfl) hf, hdp _, hq1.le (by omega), ?_⟩
                rw [ite_ret (by simp) hc4 (d := .tup [.str "some", f]) (fr' := false) (env' := [.ow false q1, .sh (.int names), .sh (.tup (cs.map nD)), .sh (.int MM), .sh (.int deep), .sh (.int 4), .no, .no, .no]) (by simp) (by simp [eval, evals, args, argOf, Arg.peek, doCall, takes, gives, bF, f35, hMN, e4])]
                rfl
              · refine ⟨.tup [.str "all", f], q1, hdq ▸ .qu _ _ _ _ (.inr rfl) hf, hdp _, hq1.le (by omega), ?_⟩
                rw [ite_ret (by simp) hc4 (d := .tup [.str "all", f]) (fr' := false) (env' := [.ow false q1, .sh (.int names), .sh (.tup (cs.map nD)), .sh (.int MM), .sh (.int deep), .sh (.int 5), .no, .no, .no]) (by simp) (by simp [eval, evals, args, argOf, Arg.peek, doCall, takes, gives, bF, f35, hMN, e4])]
                rfl
            · have hc4 : eval (P.lib (callF P (F + 20))) (.and (.cmp .lt (.var 5) (.con (.int 6))) (.cmp .gt (.var 4) (.con (.int 0)))) [.ow false p1, .sh (.int names), .sh (.tup (cs.map nD)), .sh (.int MM), .sh (.int deep), .sh (.int way), .no, .no, .no] = .ok (.bl false, false) [.ow false p1, .sh (.int names), .sh (.tup (cs.map nD)), .sh (.int MM), .sh (.int deep), .sh (.int way), .no, .no, .no] := by
                by_cases h6 : way < 6
                · have h7 : ¬ 0 < deep := fun z => h44 ⟨h6, z⟩
                  simp [eval, argOf, Arg.peek, h6, h7]
                · simp [eval, argOf, Arg.peek, h6]
              rw [ite_no (by simp) hc4]
              rw [ss_nx (env' := [.ow false p1, .sh (.int names), .sh (.tup (cs.map nD)), .sh (.int MM), .sh (.int deep), .sh (.int way), .ow true (.lst []), .sh (.int (N : Nat)), .no]) (by simp [exec, eval, evals, argOf, Arg.peek, hMN])]
              obtain ⟨r, q1, r0, r1, hq1, e4⟩ := c_l_scoop (F + 19) p1 (m + 1) 3 hp1 (by omega) (by decide) (by decide)
              have e4 : callF P (F + 20) 26 [.ow false p1, .sh (.int 3)] = _ := e4
              have hr : ∃ k : Nat, (1 + r) = k ∧ 1 ≤ k ∧ k ≤ 3 := ⟨(1 + r).toNat, by omega, by omega, by omega⟩
              obtain ⟨k, hk, hk1, hk3⟩ := hr
              have hi : (args (P.lib (callF P (F + 20))) [.bin .add (.con (.int 1)) (.call 26 [.var 0, .con (.int 3)] [0, 1])] [.ow false p1, .sh (.int names), .sh (.tup (cs.map nD)), .sh (.int MM), .sh (.int deep), .sh (.int way), .ow true (.lst []), .sh (.int (N : Nat)), .no]).bind (walkB .range) = .ok (rangeD 0 k) [.ow false q1, .sh (.int names), .sh (.tup (cs.map nD)), .sh (.int MM), .sh (.int deep), .sh (.int way), .ow true (.lst []), .sh (.int (N : Nat)), .no] := by
                have ha : args (P.lib (callF P (F + 20))) [.bin .add (.con (.int 1)) (.call 26 [.var 0, .con (.int 3)] [0, 1])] [.ow false p1, .sh (.int names), .sh (.tup (cs.map nD)), .sh (.int MM), .sh (.int deep), .sh (.int way), .ow true (.lst []), .sh (.int (N : Nat)), .no] = .ok [.val (.int (k : Nat))] [.ow false q1, .sh (.int names), .sh (.tup (cs.map nD)), .sh (.int MM), .sh (.int deep), .sh (.int way), .ow true (.lst []), .sh (.int (N : Nat)), .no] := by
                  simp [args, eval, argOf, Arg.peek, doCall, takes, gives, bS, f26, e4, hk]
                rw [ha, Res.bind_ok]
                have := iterD_range (i := (k : Int)) (by omega) (by omega)
                rw [Int.toNat_natCast] at this
                exact walkB_of (ds := [.int k]) rfl this
              have lp := Ok_fo (L := P.lib (callF P (F + 20))) (tg := .name 8) (k := .range) (b := [.ite (.cmp .gt (.var 7) (.con (.int 0))) [.app 6 (.call 35 [.var 0, .var 1, .var 2, .var 7, .var 4] [0, 1, 2, 3, 4]), .asg (.name 7) (.bin .sub (.var 7) (.call 36 [.ix (.var 6) (.neg (.con (.int 1)))] [0]))] []]) hi
                (Ok_loop (fun j env => ∃ (parts : List D) (left : Int) (q : D) (y8 : Sl), env = [.ow false q, .sh (.int names), .sh (.tup (cs.map nD)), .sh (.int MM), .sh (.int deep), .sh (.int way), .ow true (.lst parts), .sh (.int left), y8] ∧ Pou (m + 2 + j * dB N) q ∧ (∀ y ∈ parts, Fq ((0, 1) :: cs) deep.toNat names y ∧ y.depth ≤ 2 * N + 1) ∧ parts.length ≤ j ∧ left ≤ N ∧ (j = 0 → left = N) ∧ (1 ≤ j → parts ≠ []))
                  ⟨[], N, q1, .no, rfl, by simpa [show m + 1 + 1 = m + 2 by omega] using hq1, by simp, by simp, by omega, fun _ => rfl, fun z => absurd z (by decide)⟩ fun j hj env ⟨parts, left, q, y8, he, hq, hpp, hpl, hlf, hj0, hj1⟩ => by
                    subst he
                    rw [rangeD_len] at hj
                    have hjB : (j : Int) * dB N ≤ 2 * dB N := Int.mul_le_mul_of_nonneg_right (by omega) dBn
                    obtain ⟨parts', left', q', a1, a2, a3, a4, a5, a6⟩ := formula_body F N (N + 1) rfl hN ihF names deep (m + 2 + j * dB N) (.sh (.int way)) (.sh (rangeD 0 k)[j]) q cs hc hl h0 hnd hd parts left hq (by omega) hpp (by omega) hlf
                    rw [hMM] at a6
                    refine Ok_turn (by simp) (Ok.of a6 ⟨.inl rfl, parts', left', q', _, rfl, ?_, a1, by omega, a3, fun z => absurd z (by omega), fun _ => a5 ?_⟩)
                    · rw [show m + 2 + ((j + 1 : Nat) : Int) * dB N = m + 2 + j * dB N + dB N by push_cast; rw [Int.add_mul]; omega]
                      exact a4
                    · by_cases hz : j = 0
                      · exact .inr (by rw [hj0 hz]; omega)
                      · exact .inl (hj1 (by omega)))
              obtain ⟨fl, env2, hx, rfl, parts, left, q, y8, rfl, hq, hpp, hpl, hlf, _, hj1⟩ := lp.ex
              rw [rangeD_len] at hq hpl hj1
              have hjB : (k : Int) * dB N ≤ 3 * dB N := Int.mul_le_mul_of_nonneg_right (by omega) dBn
              rw [ss_nx hx]
              have hne := hj1 hk1
              have hw : way % 2 = 0 ∨ way % 2 = 1 := by omega
              have dp : ∀ w : PySem.Str, (D.tup [.str w, .tup parts]).depth ≤ 2 * (N + 1) + 1 := fun w => by
                have := depths_of (k := 2 * N + 1) (xs := parts) fun y hy => (hpp y hy).2
                rw [depth_tup, depths_cons, depths_cons, depth_tup]
                simp only [D.depth, D.depths]
                omega
              rcases hw with hw | hw
              · refine ⟨.tup [.str "both", .tup parts], q, .lst _ _ _ _ (.inl rfl) hne (by omega) (fun y hy => (hpp y hy).1), dp _, hq.le (by omega), ?_⟩
                rw [ss_rt (ret_of (by simp) (d := .tup [.str "both", .tup parts]) (fr := false) (env' := [.ow false q, .sh (.int names), .sh (.tup (cs.map nD)), .sh (.int MM), .sh (.int deep), .sh (.int way), .ow true (.lst parts), .sh (.int left), y8]) (by simp [eval, evals, args, argOf, Arg.peek, peeks, hw]))]
                rfl
              · refine ⟨.tup [.str "either", .tup parts], q, .lst _ _ _ _ (.inr rfl) hne (by omega) (fun y hy => (hpp y hy).1), dp _, hq.le (by omega), ?_⟩
                rw [ss_rt (ret_of (by simp) (d := .tup [.str "either", .tup parts]) (fr := false) (env' := [.ow false q, .sh (.int names), .sh (.tup (cs.map nD)), .sh (.int MM), .sh (.int deep), .sh (.int way), .ow true (.lst parts), .sh (.int left), y8]) (by simp [eval, evals, args, argOf, Arg.peek, peeks, hw]))]
                rfl
end Vk21


set_option Elab.async false
set_option linter.all false
set_option maxRecDepth 100000
set_option maxHeartbeats 4000000
namespace Vk21
open Pi Lk21
theorem c_lowest (n : Nat) (t b : Int) (hb : 0 < b) (hs : b.natAbs < 2 ^ 8000) : callF P (n + 1) 6 [.sh (.int t), .sh (.int b)] = .ok (nD (lowN t b)) false [.sh (.int t), .sh (.int b)] := by
  have dg : divOk (gcdI t b) := divOk_gcd 8000 hb hs (by decide)
  rw [callF_of g_lowest rfl rfl]
  simp [f6, b6, execs, exec, eval, evals, argOf, Arg.peek, pureR, args, peeks, outF, Tg.store, hb, dg, nD, lowN]
section
variable (n : Nat) (p q : Nu) (hp : Nb 2000 p) (hq : Nb 2000 q)
include hp hq
theorem c_plus_in : callF P (n + 2) 7 [.sh (nD p), .sh (nD q)] = .ok (nD (lowN (p.1 * q.2 + q.1 * p.2) (p.2 * q.2))) false [.sh (nD p), .sh (nD q)] := by
  obtain ⟨a, b⟩ := p
  obtain ⟨c, d⟩ := q
  have m1 : mulOk a d := mulSz hp.sz.ta hq.sz.tb
  have m2 : mulOk c b := mulSz hq.sz.ta hp.sz.tb
  have m3 : mulOk b d := mulSz hp.sz.tb hq.sz.tb
  have e := c_lowest n (a * d + c * b) (b * d) (Int.mul_pos hp.nz.pos hq.nz.pos) (Nat.lt_of_lt_of_le (abs_mul hp.sz.tb hq.sz.tb) (Nat.pow_le_pow_right (by decide) (by decide)))
  rw [callF_of g_plus_in rfl rfl]
  simp [f7, b7, execs, exec, eval, evals, argOf, Arg.peek, pureR, args, peeks, outF, doCall, takes, gives, lib_bor g_lowest, f6, m1, m2, m3, e]
theorem c_minus_in : callF P (n + 2) 8 [.sh (nD p), .sh (nD q)] = .ok (nD (lowN (p.1 * q.2 - q.1 * p.2) (p.2 * q.2))) false [.sh (nD p), .sh (nD q)] := by
  obtain ⟨a, b⟩ := p
  obtain ⟨c, d⟩ := q
  have m1 : mulOk a d := mulSz hp.sz.ta hq.sz.tb
  have m2 : mulOk c b := mulSz hq.sz.ta hp.sz.tb
  have m3 : mulOk b d := mulSz hp.sz.tb hq.sz.tb
  have e := c_lowest n (a * d - c * b) (b * d) (Int.mul_pos hp.nz.pos hq.nz.pos) (Nat.lt_of_lt_of_le (abs_mul hp.sz.tb hq.sz.tb) (Nat.pow_le_pow_right (by decide) (by decide)))
  rw [callF_of g_minus_in rfl rfl]
  simp [f8, b8, execs, exec, eval, evals, argOf, Arg.peek, pureR, args, peeks, outF, doCall, takes, gives, lib_bor g_lowest, f6, m1, m2, m3, e]
theorem c_ahead2 : callF P (n + 1) 11 [.sh (nD p), .sh (nD q)] = .ok (.bl (lt2 p q)) false [.sh (nD p), .sh (nD q)] :=
  c_ahead n p.1 p.2 q.1 q.2 (mulSz hp.sz.ta hq.sz.tb) (mulSz hq.sz.ta hp.sz.tb)
theorem c_middle_in (hp : Nb 990 p) (hq : Nb 990 q) : callF P (n + 3) 16 [.sh (nD p), .sh (nD q)] = .ok (nD (midN p q)) false [.sh (nD p), .sh (nD q)] := by
  have hp2 : Nb 2000 p := hp.le (by decide)
  have hq2 : Nb 2000 q := hq.le (by decide)
  have e1 := c_plus_in n p q hp2 hq2
  have bb : 0 < p.2 * q.2 := Int.mul_pos hp.nz.pos hq.nz.pos
  have k1 : (p.1 * q.2 + q.1 * p.2).natAbs < 2 ^ 1990 := by
    have h1 := abs_mul hp.sz.ta hq.sz.tb
    have h2 := abs_mul hq.sz.ta hp.sz.tb
    have : (2 : Nat) ^ (990 + 990) + 2 ^ (990 + 990) ≤ 2 ^ 1990 := by decide +kernel
    omega
  have k2 : (p.2 * q.2).natAbs < 2 ^ 1990 := Nat.lt_of_lt_of_le (abs_mul hp.sz.tb hq.sz.tb) (Nat.pow_le_pow_right (by decide) (by decide))
  have nz := lowN_nz (t := p.1 * q.2 + q.1 * p.2) bb
  have sz := lowN_sz (t := p.1 * q.2 + q.1 * p.2) bb k1 k2
  have ll := lowN_low (t := p.1 * q.2 + q.1 * p.2) (m := 2) bb (by decide)
  generalize lowN (p.1 * q.2 + q.1 * p.2) (p.2 * q.2) = s at *
  obtain ⟨x, y⟩ := s
  have m1 : mulOk x 1 := mulSz sz.ta (j := 1) (by decide)
  have m2 : mulOk y 2 := mulSz sz.tb (j := 2) (by decide)
  have e2 := c_lowest n (x * 1) (y * 2) (Int.mul_pos nz.pos (by decide)) (by
    have h1 : y.natAbs < 2 ^ 1990 := sz.tb
    have h2 : (y * 2).natAbs = y.natAbs * 2 := Int.natAbs_mul _ _
    have : (2 : Nat) ^ 1990 * 2 ≤ 2 ^ 8000 := by decide +kernel
    omega)
  have e3 : callF P (n + 2) 9 [.sh (num x y), .sh (num 2 1)] = .ok (nD (midN p q)) false [.sh (num x y), .sh (num 2 1)] := by
    rw [callF_of g_over_in rfl rfl]
    have e4 : lowN (x * 1) (y * 2) = midN p q := by rw [Int.mul_one]; exact ll
    rw [e4] at e2
    simp only [Int.mul_one] at e2
    simp [f9, b9, execs, exec, eval, evals, argOf, Arg.peek, pureR, args, peeks, outF, doCall, takes, gives, lib_bor g_lowest, f6, m1, m2, e2]
  rw [callF_of g_middle_in rfl rfl]
  simp [f16, b16, execs, exec, eval, evals, argOf, Arg.peek, pureR, args, peeks, outF, doCall, takes, gives, lib_bor g_plus_in, f7, lib_bor g_over_in, f9, e1, e3]
end
theorem c_in_sequence (n M : Nat) (l : List Nu) (hz : l.length ≤ 50000) (hl : ∀ q ∈ l, Nb 1000 q) (hM : Mul M l) : callF P (n + 1) 10 [.sh (.lst (l.map nD))] = .ok (.lst ((srt l).map nD)) true [.sh (.lst (l.map nD))] := by
  have um : ∀ q, q ∈ uqN [] l ↔ q ∈ l := fun q => by rw [uqN_mem]; simp
  have ul : (uqN [] l).length ≤ 100000 := by have := uqN_len l []; simp at this; omega
  have key : Ok (exec (P.lib (callF P n)) (.fo (.name 3) .seq [.var 1] [.asg (.name 2) (.bi .lcm [.var 2, .ix (.var 3) (.con (.int 1))])]) [.sh (.lst (l.map nD)), .ow true (.lst ((uqN [] l).map nD)), .sh (.int 1), .no]) fun fl e => fl = .nx ∧ ∃ (m : Nat) (y3 : Sl), e = [.sh (.lst (l.map nD)), .sh (.lst ((uqN [] l).map nD)), .sh (.int (m : Int)), y3] ∧ 0 < m ∧ m ∣ M ∧ ∀ q ∈ uqN [] l, q.2.natAbs ∣ m := by
    refine Ok_fo (items := (uqN [] l).map nD) (env1 := [.sh (.lst (l.map nD)), .sh (.lst ((uqN [] l).map nD)), .sh (.int 1), .no]) rfl ((Ok_loop (fun j env => ∃ (m : Nat) (y3 : Sl), env = [.sh (.lst (l.map nD)), .sh (.lst ((uqN [] l).map nD)), .sh (.int (m : Int)), y3] ∧ 0 < m ∧ m ∣ M ∧ ∀ q ∈ (uqN [] l).take j, q.2.natAbs ∣ m)
      ⟨1, .no, rfl, by decide, Nat.one_dvd _, by simp⟩ fun j hj env ⟨m, y3, he, h1, h2, h3⟩ => ?_).mono fun fl e ⟨h0, m, y3, he, h1, h2, h3⟩ => ⟨h0, m, y3, he, h1, h2, by simpa using h3⟩)
    subst he
    have hj' : j < (uqN [] l).length := by simpa using hj
    have hj2 : ((uqN [] l).map nD)[j] = nD (uqN [] l)[j] := List.getElem_map _
    rw [hj2]
    have hm := (um _).mp (List.getElem_mem hj')
    have tk := take_succ_map (uqN [] l) hj'
    have nb := hl _ hm
    have dv := hM.dv _ hm
    generalize (uqN [] l)[j] = p at *
    obtain ⟨a, b⟩ := p
    have pb : 0 < b := nb.nz.pos
    have l1 : m.log2 < 9000 := log_ltK (Nat.lt_of_le_of_lt (Nat.le_of_dvd hM.pos h2) hM.lt) 9000 (by decide)
    have l2 : b.natAbs.log2 < 9000 := log_ltK (k := 9000) nb.sz.tb (by decide)
    have e : biD .lcm [.int (m : Int), .int b] = some (.int (Nat.lcm m b.natAbs : Nat), false) := by
      have := biD_lcm (i := (m : Int)) (j := b) (by rwa [Int.natAbs_natCast]) l2
      rwa [Int.natAbs_natCast] at this
    refine Ok_turn (by simp) (Ok.of (a := .nx) (e := [.sh (.lst (l.map nD)), .sh (.lst ((uqN [] l).map nD)), .sh (.int ((Nat.lcm m b.natAbs : Nat) : Int)), .sh (num a b)]) (by simp [execs, exec, eval, args, argOf, Arg.peek, peeks, e, Tg.store]) ⟨.inl rfl, _, _, rfl, Nat.pos_of_ne_zero fun z => ?_, Nat.lcm_dvd h2 dv, fun q hq => ?_⟩)
    · rcases Nat.lcm_eq_zero_iff.mp z with z | z <;> omega
    · rw [tk] at hq
      rcases List.mem_append.mp hq with hq | hq
      · exact Nat.dvd_trans (h3 q hq) (Nat.dvd_lcm_left _ _)
      · rw [List.mem_singleton] at hq; subst hq; exact Nat.dvd_lcm_right _ _
  obtain ⟨fl, e, hx, rfl, m, y3, rfl, h1, h2, h3⟩ := key.ex
  have hm : (m : Int).natAbs < 2 ^ 8900 := by rw [Int.natAbs_natCast]; exact Nat.lt_of_le_of_lt (Nat.le_of_dvd hM.pos h2) hM.lt
  have sk := sortkD_nD (m := (m : Int)) ul fun q hq => by
    have nb := hl q ((um q).mp hq)
    refine ⟨divOk_of 1000 nb.nz.pos nb.sz.tb (by decide), mulSz nb.sz.ta (j := 8900) (Nat.lt_of_le_of_lt ?_ hm)⟩
    obtain ⟨c, hc⟩ := h3 q hq
    exact natAbs_ediv_le _ _ nb.nz.pos (Int.natAbs_dvd_natAbs.mp (by rw [Int.natAbs_natCast]; exact h3 q hq))
  have se : sortI (m : Int) (uqN [] l) = srt l := by
    rw [sortI_eq (by omega) (fun q hq => (hl q ((um q).mp hq)).nz) (fun q hq => Int.natAbs_dvd_natAbs.mp (by rw [Int.natAbs_natCast]; exact h3 q hq)) (uqN_nodup l [] (by simp))]
    exact srt_congr (fun q hq => (hl q ((um q).mp hq)).nz) um
  rw [se] at sk
  have uq := uniqD_nD (l := l) (by omega)
  rw [callF_of g_in_sequence rfl rfl]
  show outF 1 (execs (P.lib (callF P n)) [.par [1, 2] [.uniq (.var 0), .con (.int 1)], .fo (.name 3) .seq [.var 1] [.asg (.name 2) (.bi .lcm [.var 2, .ix (.var 3) (.con (.int 1))])], .ret (.sortk (.var 1) 2)] [.sh (.lst (l.map nD)), .no, .no, .no]) = _
  rw [ss_nx (env' := [.sh (.lst (l.map nD)), .ow true (.lst ((uqN [] l).map nD)), .sh (.int 1), .no]) (by simp [exec, eval, argOf, Arg.peek, uq]), ss_nx hx]
  simp [execs, exec, eval, argOf, Arg.peek, sk, outF]
end Vk21


set_option Elab.async false
set_option linter.all false
set_option maxRecDepth 100000
set_option maxHeartbeats 4000000
namespace Vk21
open Pi Lk21
theorem c_together (n M : Nat) (lots : List D) (ls : List (List Nu)) (a0 : Sl) (ha : a0 = .sh (.lst lots) ∨ a0 = .ow false (.lst lots)) (h : Lots lots ls) (hz : ls.flatten.length ≤ 50000) (hl : ∀ q ∈ ls.flatten, Nb 1000 q) (hM : Mul M ls.flatten) :
    callF P (n + 2) 15 [a0] = .ok (.tup ((srt ls.flatten).map nD)) false [.sh (.lst lots)] := by
  have hi : (args (P.lib (callF P (n + 1))) [.var 0] [a0, .no, .no]).bind (walkB .seq) = .ok lots [.sh (.lst lots), .no, .no] := by
    rcases ha with rfl | rfl <;> rfl
  have lc := lc2_of (L := P.lib (callF P (n + 1))) (elt := .var 2) (own := [1, 2]) (tg := .name 1) (conds := []) (tg1 := .name 2) (k1 := .seq) (es1 := [.var 1]) (conds1 := []) hi (loop2_lots (env := [.sh (.lst lots), .no, .no]) (fun d l acc hd hz => ?_) [] h (by rw [List.length_nil]; omega))
  · rw [List.nil_append] at lc
    have e := c_in_sequence n M ls.flatten hz hl hM
    have b1 := call_one (f := 10) (by simp) lc
    have e4 : doCall (P.lib (callF P (n + 1))) 10 [.val (.lst (ls.flatten.map nD))] [0] (backE [.sh (.lst lots), .no, .no] [.sh (.lst lots), .no, .no] [1, 2]) = .ok (.lst ((srt ls.flatten).map nD), true) [.sh (.lst lots), .no, .no] := by
      generalize ls.flatten.map nD = xs at *
      simp [doCall, takes, gives, lib_bor g_in_sequence, f10, e, backE]
    rw [e4] at b1
    have b2 := bi_one (f := .tuple) (by simp) b1
    rw [callF_of g_together rfl (by rcases ha with rfl | rfl <;> rfl)]
    show outF 1 (execs (P.lib (callF P (n + 1))) [.ret (.bi .tuple [.call 10 [.lc2 (.var 2) [1, 2] (.name 1) .seq [.var 0] [] (.name 2) .seq [.var 1] []] [0]])] [a0, .no, .no]) = _
    rw [ss_rt (ret_of (by simp) b2)]
    rfl
  · have inner : ∀ acc : List D, acc.length + l.length ≤ 100000 → lcLoop (fun d e => match (Tg.name 2).store d false e with
                    | none => .bad
                    | some e1 => (holds (P.lib (callF P (n + 1))) [] e1).bind fun b e2 => if b then (eval (P.lib (callF P (n + 1))) (.var 2) e2).bind fun r e3 => .ok (some r.1) (wipeE e3 (Tg.name 2).slots) else .ok none (wipeE e2 (Tg.name 2).slots)) (l.map nD) [.sh (.lst lots), .sh d, .no] acc = .ok (acc ++ l.map nD) [.sh (.lst lots), .sh d, .no] := fun acc hz => lcLoop_id (fun x hx => by simp [Tg.store, holds, eval, wipeE, Tg.slots]) (by simpa using hz)
    have w : walkB .seq [.slot 1] [.sh (.lst lots), .sh d, .no] = .ok (l.map nD) [.sh (.lst lots), .sh d, .no] := by rcases hd with rfl | rfl <;> rfl
    simp only [wipeE, List.set_cons_succ, List.set_cons_zero, Tg.store, List.length_cons, List.length_nil, Nat.zero_add, Nat.reduceAdd, Nat.reduceLT, if_true, Bool.false_eq_true, if_false, holds, Res.bind_ok, args, argOf, List.getElem?_cons_succ, List.getElem?_cons_zero, w, Tg.slots]
    have i2 := inner acc hz
    simp only [wipeE, List.set_cons_succ, List.set_cons_zero, Tg.store, List.length_cons, List.length_nil, Nat.zero_add, Nat.reduceAdd, Nat.reduceLT, if_true, Bool.false_eq_true, if_false, holds, Res.bind_ok, args, argOf, List.getElem?_cons_succ, List.getElem?_cons_zero, Tg.slots] at i2
    exact (congrArg (fun r : Res (List D) => r.bind fun acc' e4 => Res.ok acc' ((List.set e4 2 Sl.no).set 1 Sl.no)) i2).trans rfl
def cseg (l : List Nu) (i : Nat) : List Nu := [nth l i, midN (nth l i) (nth l (i + 1))]
theorem c_candidates (n M : Nat) (cs pl : List Nu) (hz : cs.length + pl.length ≤ 50) (hl : ∀ q ∈ cs ++ pl, Nb 990 q) (hM : Mul M (cs ++ pl)) :
    callF P (n + 4) 17 [.sh (.tup (cs.map nD)), .sh (.tup (pl.map nD))] = .ok (.lst ((candN (srt (cs ++ pl))).map nD)) true [.sh (.tup (cs.map nD)), .sh (.tup (pl.map nD))] := by
  have lo : Lots [.tup (cs.map nD), .tup (pl.map nD)] [cs, pl] := .cons (.inl rfl) (.cons (.inl rfl) .nil)
  have fl : [cs, pl].flatten = cs ++ pl := by simp
  have e1 := c_together (n + 1) M _ _ _ (.inl rfl) lo (by rw [fl, List.length_append]; omega) (by rw [fl]; exact fun q hq => (hl q hq).le (by decide)) (by rw [fl]; exact hM)
  rw [fl] at e1
  have e1 : callF P (n + 3) 15 [.sh (.lst [.tup (cs.map nD), .tup (pl.map nD)])] = _ := e1
  have nb := srt_nb hl
  have sl := srt_len (cs ++ pl)
  rw [List.length_append] at sl
  generalize hpts : srt (cs ++ pl) = pts at *
  generalize hX : D.tup (cs.map nD) = X at *
  generalize hY : D.tup (pl.map nD) = Y at *
  have dep : (D.tup (pts.map nD)).depth ≤ 64 := by rw [depth_tup]; have := nD_depths pts; omega
  have q0 : cmpD .eq (.tup (pts.map nD)) (.tup []) = some (decide (pts = [])) := by
    rw [cmpD_eq dep (by simp [D.depth, D.depths])]
    cases pts <;> simp [D.eqb, D.eqbs]
  have bT : (P.lib (callF P (n + 3))).bor 15 = f15.bor := lib_bor g_together _
  have bM : (P.lib (callF P (n + 3))).bor 8 = f8.bor := lib_bor g_minus_in _
  have bP : (P.lib (callF P (n + 3))).bor 7 = f7.bor := lib_bor g_plus_in _
  have bI : (P.lib (callF P (n + 3))).bor 16 = f16.bor := lib_bor g_middle_in _
  rw [callF_of g_candidates rfl rfl]
  show outF 2 (execs (P.lib (callF P (n + 3))) [.asg (.name 2) (.call 15 [.lst [.var 0, .var 1]] [0]), .ite (.cmp .eq (.var 2) (.tup [])) [.ret (.lst [.tup [.con (.int 0), .con (.int 1)]])] [], .asg (.name 3) (.lst [.call 8 [.ix (.var 2) (.con (.int 0)), .tup [.con (.int 1), .con (.int 1)]] [0, 1]]), .fo (.tup [4, 5]) .zip [.var 2, .cut (.var 2) (.con (.int 1)) (.con .non)] [.ext 3 (.lst [.var 4, .call 16 [.var 4, .var 5] [0, 1]])], .ret (.bin .add (.var 3) (.lst [.ix (.var 2) (.neg (.con (.int 1))), .call 7 [.ix (.var 2) (.neg (.con (.int 1))), .tup [.con (.int 1), .con (.int 1)]] [0, 1]]))] [.sh X, .sh Y, .no, .no, .no, .no]) = _
  rw [ss_nx (env' := [.sh X, .sh Y, .sh (.tup (pts.map nD)), .no, .no, .no]) (by simp [exec, eval, evals, args, argOf, Arg.peek, doCall, takes, gives, bT, f15, e1, Tg.store])]
  by_cases h0 : pts = []
  · rw [decide_eq_true h0] at q0
    rw [ite_ret (fr := false) (by simp) (by simp [eval, evals, argOf, Arg.peek, q0]) (d := .lst [num 0 1]) (fr' := true) (env' := [.sh X, .sh Y, .sh (.tup (pts.map nD)), .no, .no, .no]) (by simp) (by simp [eval, evals])]
    rw [h0]; rfl
  · rw [decide_eq_false h0] at q0
    rw [ite_no (fr := false) (env' := [.sh X, .sh Y, .sh (.tup (pts.map nD)), .no, .no, .no]) (by simp) (by simp [eval, evals, argOf, Arg.peek, q0])]
    have hpos := List.length_pos_iff.mpr h0
    have one : Nb 990 ((1, 1) : Nu) := ⟨⟨by decide, by decide⟩, ⟨by decide +kernel, by decide +kernel⟩⟩
    have ix0 : (pts.map nD)[0]? = some (nD (nth pts 0)) := map_nth hpos
    have lastI : L2.atI (pts.map nD) (-1) = some (nD (nth pts (pts.length - 1))) := by
      rw [atI_m1 (by simpa using h0), List.length_map]; exact map_nth (by omega)
    have em := c_minus_in (n + 1) (nth pts 0) (1, 1) ((nb _ (nth_mem hpos)).le (by decide)) (one.le (by decide))
    have ep := c_plus_in (n + 1) (nth pts (pts.length - 1)) (1, 1) ((nb _ (nth_mem (by omega))).le (by decide)) (one.le (by decide))
    have em : callF P (n + 3) 8 [.sh (nD (nth pts 0)), .sh (num 1 1)] = _ := em
    have ep : callF P (n + 3) 7 [.sh (nD (nth pts (pts.length - 1))), .sh (num 1 1)] = _ := ep
    have hL : candN pts = lowN ((nth pts 0).1 - (nth pts 0).2) (nth pts 0).2 :: (List.range (pts.length - 1)).flatMap (cseg pts) ++ [nth pts (pts.length - 1), lowN ((nth pts (pts.length - 1)).1 + (nth pts (pts.length - 1)).2) (nth pts (pts.length - 1)).2] := by
      unfold candN
      rw [if_neg h0]
      rfl
    rw [hL]
    simp only [Int.mul_one, Int.one_mul] at em ep
    generalize lowN ((nth pts 0).1 - (nth pts 0).2) (nth pts 0).2 = hd at *
    generalize lowN ((nth pts (pts.length - 1)).1 + (nth pts (pts.length - 1)).2) (nth pts (pts.length - 1)).2 = ls at *
    rw [ss_nx (env' := [.sh X, .sh Y, .sh (.tup (pts.map nD)), .ow true (.lst [nD hd]), .no, .no]) (by
      generalize nD (nth pts 0) = a at *
      simp [exec, eval, evals, args, argOf, Arg.peek, doCall, takes, gives, bM, f8, em, ix0, Tg.store])]
    have hzl : (List.zipWith (fun x y => D.tup [x, y]) (pts.map nD) ((pts.map nD).drop 1)).length = pts.length - 1 := by
      rw [List.length_zipWith, List.length_drop, List.length_map]; omega
    have hi : (args (P.lib (callF P (n + 3))) [.var 2, .cut (.var 2) (.con (.int 1)) (.con .non)] [.sh X, .sh Y, .sh (.tup (pts.map nD)), .ow true (.lst [nD hd]), .no, .no]).bind (walkB .zip) = .ok (List.zipWith (fun x y => D.tup [x, y]) (pts.map nD) ((pts.map nD).drop 1)) [.sh X, .sh Y, .sh (.tup (pts.map nD)), .ow true (.lst [nD hd]), .no, .no] := by
      have c1 : cutL (pts.map nD) (some (1 : Int)) none = (pts.map nD).drop 1 := cutL_from (k := 1) (by rw [List.length_map]; omega)
      have ha : args (P.lib (callF P (n + 3))) [.var 2, .cut (.var 2) (.con (.int 1)) (.con .non)] [.sh X, .sh Y, .sh (.tup (pts.map nD)), .ow true (.lst [nD hd]), .no, .no] = .ok [.slot 2, .val (.tup ((pts.map nD).drop 1))] [.sh X, .sh Y, .sh (.tup (pts.map nD)), .ow true (.lst [nD hd]), .no, .no] := by
        simp [args, eval, argOf, Arg.peek, partOf, cutD, c1]
      rw [ha, Res.bind_ok]
      exact walkB_of (ds := [.tup (pts.map nD), .tup ((pts.map nD).drop 1)]) rfl rfl
    have lp := Ok_fo (L := P.lib (callF P (n + 3))) (tg := .tup [4, 5]) (k := .zip) (b := [.ext 3 (.lst [.var 4, .call 16 [.var 4, .var 5] [0, 1]])]) hi
      (Ok_loop (fun j env => ∃ y4 y5, env = [.sh X, .sh Y, .sh (.tup (pts.map nD)), .ow true (.lst ((hd :: (List.range j).flatMap (cseg pts)).map nD)), y4, y5]) ⟨.no, .no, rfl⟩ fun j hj env ⟨y4, y5, he⟩ => by
        subst he
        rw [hzl] at hj
        have ij : (List.zipWith (fun x y => D.tup [x, y]) (pts.map nD) ((pts.map nD).drop 1))[j]'(by rw [hzl]; exact hj) = .tup [nD (nth pts j), nD (nth pts (j + 1))] := by
          have m1 : (pts.map nD)[j]'(by rw [List.length_map]; omega) = nD (nth pts j) := by
            have := map_nth (l := pts) (i := j) (by omega)
            rw [List.getElem?_eq_getElem (by rw [List.length_map]; omega)] at this
            exact Option.some.inj this
          have m2 : (pts.map nD)[j + 1]'(by rw [List.length_map]; omega) = nD (nth pts (j + 1)) := by
            have := map_nth (l := pts) (i := j + 1) (by omega)
            rw [List.getElem?_eq_getElem (by rw [List.length_map]; omega)] at this
            exact Option.some.inj this
          rw [List.getElem_zipWith, List.getElem_drop, m1]
          simp only [Nat.add_comm 1 j, m2]
        rw [ij]
        have e5 := c_middle_in n (nth pts j) (nth pts (j + 1)) ((nb _ (nth_mem (by omega))).le (by decide)) ((nb _ (nth_mem (by omega))).le (by decide)) (nb _ (nth_mem (by omega))) (nb _ (nth_mem (by omega)))
        have hlen : ∀ j, ((List.range j).flatMap (cseg pts)).length = 2 * j := fun j => by
          induction j with
          | zero => rfl
          | succ j ih => rw [List.range_succ, List.flatMap_append, List.length_append, ih]; simp [cseg]; omega
        have hz1 : (hd :: (List.range j).flatMap (cseg pts)).length + 2 ≤ 100000 := by rw [List.length_cons, hlen]; omega
        have hsnoc : ((hd :: (List.range (j + 1)).flatMap (cseg pts)).map nD) = (hd :: (List.range j).flatMap (cseg pts)).map nD ++ [nD (nth pts j), nD (midN (nth pts j) (nth pts (j + 1)))] := by
          rw [List.range_succ, List.flatMap_append]
          simp [cseg]
        have hz1 : ((hd :: (List.range j).flatMap (cseg pts)).map nD).length + 2 ≤ 100000 := by rw [List.length_map]; exact hz1
        refine Ok_turnT (e1 := [.sh X, .sh Y, .sh (.tup (pts.map nD)), .ow true (.lst ((hd :: (List.range j).flatMap (cseg pts)).map nD)), .sh (nD (nth pts j)), .sh (nD (nth pts (j + 1)))]) rfl (Ok.of (a := .nx) (e := [.sh X, .sh Y, .sh (.tup (pts.map nD)), .ow true (.lst ((hd :: (List.range (j + 1)).flatMap (cseg pts)).map nD)), .sh (nD (nth pts j)), .sh (nD (nth pts (j + 1)))]) ?_ ⟨.inl rfl, _, _, rfl⟩)
        rw [hsnoc]
        generalize (hd :: (List.range j).flatMap (cseg pts)).map nD = acc at *
        generalize nD (midN (nth pts j) (nth pts (j + 1))) = u at *
        generalize nD (nth pts j) = v at *
        generalize nD (nth pts (j + 1)) = w at *
        simp [execs, exec, eval, evals, args, argOf, Arg.peek, doCall, takes, gives, bI, f16, e5, hz1])
    obtain ⟨fl, env2, hx, rfl, y4, y5, rfl⟩ := lp.ex
    rw [hzl] at hx
    rw [ss_nx hx]
    have hlen : ∀ j, ((List.range j).flatMap (cseg pts)).length = 2 * j := fun j => by
      induction j with
      | zero => rfl
      | succ j ih => rw [List.range_succ, List.flatMap_append, List.length_append, ih]; simp [cseg]; omega
    have hz2 : ((hd :: (List.range (pts.length - 1)).flatMap (cseg pts)).map nD).length + 2 ≤ 100000 := by rw [List.length_map, List.length_cons, hlen]; omega
    have hsn : ((hd :: (List.range (pts.length - 1)).flatMap (cseg pts) ++ [nth pts (pts.length - 1), ls]).map nD) = (hd :: (List.range (pts.length - 1)).flatMap (cseg pts)).map nD ++ [nD (nth pts (pts.length - 1)), nD ls] := by simp
    rw [hsn]
    generalize (hd :: (List.range (pts.length - 1)).flatMap (cseg pts)).map nD = acc at *
    generalize nD (nth pts (pts.length - 1)) = v at *
    simp [execs, exec, eval, evals, args, argOf, Arg.peek, doCall, takes, gives, bP, f7, ep, lastI, hz2, outF]
end Vk21


set_option Elab.async false
set_option linter.all false
set_option maxRecDepth 100000
set_option maxHeartbeats 4000000
namespace Vk21
open Pi Lk21
theorem c_term_worth (n : Nat) (pool pl : List Nu) (m : Int) (t : D) (h : Tq pool m t) (hm : (pl.length : Int) = m) : callF P (n + 1) 14 [.sh t, .sh (.tup (pl.map nD))] = .ok (nD (wth pl t)) false [.sh t, .sh (.tup (pl.map nD))] := by
  rw [callF_of g_term_worth rfl rfl]
  rcases h.is with ⟨i, rfl, hi⟩ | ⟨p, hp, rfl⟩
  · have e := nth_app (pl := pl) (i := i) (by omega)
    have ew : wth pl (.int (i : Nat)) = nth pl i := by show nth pl ((i : Int).toNat) = _; rw [Int.toNat_natCast]
    rw [ew]
    generalize pl.map nD = xs at *
    generalize nth pl i = w at *
    simp [f14, b14, execs, exec, eval, argOf, Arg.peek, outF, tyD, e]
  · have ew : wth pl (nD p) = p := rfl
    rw [ew]
    simp [f14, b14, execs, exec, eval, argOf, Arg.peek, outF, tyD]
theorem c_parts_of (n : Nat) {pool : List Nu} {q : Nat} {m : Int} {d : D} (h : Fq pool q m d) : callF P (n + 1) 20 [.sh d] = .ok (.tup (partsF d)) false [.sh d] := by
  have ei : ∀ w : PySem.Str, cmpD .isin (.str w) (.tup [.str "not", .str "some", .str "all"]) = some (decide (w ∈ [("not" : PySem.Str), "some", "all"])) := fun w => cmpD_ins (ys := ["not", "some", "all"])
  rw [callF_of g_parts_of rfl rfl]
  cases h with
  | yes => simp [f20, b20, execs, exec, eval, evals, argOf, Arg.peek, outF, cmpD_eqs, ei, partsF]
  | cmp _ _ w a b hw ha hb => rcases hw with rfl | rfl <;> simp [f20, b20, execs, exec, eval, evals, argOf, Arg.peek, outF, cmpD_eqs, ei, partsF]
  | not _ _ x h =>
    have c1 : cutL [D.str "not", x] (some (1 : Int)) none = [x] := cutL_from (k := 1) (by simp)
    simp [f20, b20, execs, exec, eval, evals, argOf, Arg.peek, outF, cmpD_eqs, ei, partOf, cutD, c1, partsF]
  | qu _ _ w x hw h =>
    have c1 : ∀ w, cutL [D.str w, x] (some (1 : Int)) none = [x] := fun w => cutL_from (k := 1) (by simp)
    rcases hw with rfl | rfl <;> simp [f20, b20, execs, exec, eval, evals, argOf, Arg.peek, outF, cmpD_eqs, ei, partOf, cutD, c1, partsF]
  | lst _ _ w ys hw h0 hz h =>
    rcases hw with rfl | rfl <;> simp [f20, b20, execs, exec, eval, evals, argOf, Arg.peek, outF, cmpD_eqs, ei, partsF]
section
variable {pool : List Nu} (M : Nat) (hp : ∀ p ∈ pool, Nb 110 p) (hz : pool.length ≤ 50) (hM : Mul M pool)
include hp hz hM
theorem c_numbers_in (n : Nat) : ∀ (k : Nat) {q : Nat} {m : Int} {d : D}, Fq pool q m d → d.depth ≤ k → callF P (n + k + 3) 21 [.sh d] = .ok (.tup ((srt (numsF (k + 1) d)).map nD)) false [.sh d] := by
  intro k
  induction k with
  | zero =>
    intro q m d h hd
    obtain ⟨xs, rfl⟩ : ∃ xs, d = .tup xs := by cases h <;> exact ⟨_, rfl⟩
    rw [depth_tup] at hd
    omega
  | succ k ih =>
    intro q m d h hd
    have hnz : ∀ p ∈ pool, Nz p := fun p hp' => (hp p hp').nz
    have parts := c_parts_of (n + k + 2) h
    have hpl := Fq.parts h
    have e1 : ∀ y ∈ partsF d, callF P (n + k + 3) 21 [.sh y] = .ok (.tup ((srt (numsF (k + 1) y)).map nD)) false [.sh y] := fun y hy => by
      obtain ⟨h1, q', m', h2⟩ := Fq.part h y hy
      exact ih h2 (by omega)
    have bP : (P.lib (callF P (n + k + 3))).bor 20 = f20.bor := lib_bor g_parts_of _
    have bN : (P.lib (callF P (n + k + 3))).bor 21 = f21.bor := lib_bor g_numbers_in _
    have bT : (P.lib (callF P (n + k + 3))).bor 15 = f15.bor := lib_bor g_together _
    have hi : (args (P.lib (callF P (n + k + 3))) [.call 20 [.var 0] [0]] [.sh d, .no, .no]).bind (walkB .seq) = .ok (partsF d) [.sh d, .no, .no] := walk_seq (fr := false) (by simp) (.inl (by
      generalize partsF d = ps at *
      simp [eval, args, argOf, Arg.peek, doCall, takes, gives, bP, f20, parts]))
    have lc := lc_map (L := P.lib (callF P (n + k + 3))) (elt := .call 21 [.var 2] [0]) (own := [2]) (tg := .name 2) (fun y => .tup ((srt (numsF (k + 1) y)).map nD)) hi (by omega) fun y hy => ⟨_, [.sh d, .no, .sh y], false, rfl, by
      have e := e1 y hy
      generalize D.tup ((srt (numsF (k + 1) y)).map nD) = r at *
      simp [wipeE, eval, args, argOf, Arg.peek, doCall, takes, gives, bN, f21, e], rfl⟩
    have a1 : exec (P.lib (callF P (n + k + 3))) (.asg (.name 1) (.lc (.call 21 [.var 2] [0]) [2] (.name 2) .seq [.call 20 [.var 0] [0]] [])) [.sh d, .no, .no] = .ok .nx [.sh d, .ow true (.lst ((partsF d).map fun y => .tup ((srt (numsF (k + 1) y)).map nD))), .no] := by
      rw [exec, lc]; rfl
    have lo1 : Lots ((partsF d).map fun y => D.tup ((srt (numsF (k + 1) y)).map nD)) ((partsF d).map fun y => srt (numsF (k + 1) y)) := Lots.map _ _ _ fun y hy => .inl rfl
    rw [show n + (k + 1) + 3 = n + k + 3 + 1 by omega, callF_of g_numbers_in rfl rfl]
    show outF 1 (execs (P.lib (callF P (n + k + 3))) [.asg (.name 1) (.lc (.call 21 [.var 2] [0]) [2] (.name 2) .seq [.call 20 [.var 0] [0]] []), .ite (.or (.cmp .eq (.ix (.var 0) (.con (.int 0))) (.con (.str "less"))) (.cmp .eq (.ix (.var 0) (.con (.int 0))) (.con (.str "same")))) [.app 1 (.lc (.var 2) [2] (.name 2) .seq [.cut (.var 0) (.con (.int 1)) (.con .non)] [.isin (.var 2) [.tuple]])] [], .ret (.call 15 [.var 1] [0])] [.sh d, .no, .no]) = _
    rw [ss_nx a1]
    have sub : ∀ k, ∀ p ∈ numsF k d, p ∈ pool := numsF_pool h
    by_cases hcm : ∃ w a b, d = .tup [.str w, a, b]
    · obtain ⟨w, a, b, rfl⟩ := hcm
      have hw : (w = "less" ∨ w = "same") ∧ Tq pool m a ∧ Tq pool m b := by
        cases h with
        | cmp _ _ _ _ _ hw ha hb => exact ⟨hw, ha, hb⟩
      obtain ⟨hw, ha, hb⟩ := hw
      have pn : partsF (.tup [.str w, a, b]) = [] := rfl
      rw [pn, List.map_nil]
      have c1 : cutL [D.str w, a, b] (some (1 : Int)) none = [a, b] := cutL_from (k := 1) (by simp)
      have lcn : lcLoop (fun x e => match (Tg.name 2).store x false e with
            | none => .bad
            | some e1 => (holds (P.lib (callF P (n + k + 3))) [.isin (.var 2) [.tuple]] e1).bind fun b e2 => if b then (eval (P.lib (callF P (n + k + 3))) (.var 2) e2).bind fun r e3 => .ok (some r.1) (wipeE e3 [2]) else .ok none (wipeE e2 [2])) [a, b] [.sh (.tup [.str w, a, b]), .ow true (.lst []), .no] [] = .ok ((numOf a ++ numOf b).map nD) [.sh (.tup [.str w, a, b]), .ow true (.lst []), .no] := by
        rcases ha.is with ⟨i, rfl, _⟩ | ⟨p, _, rfl⟩ <;> rcases hb.is with ⟨j, rfl, _⟩ | ⟨r, _, rfl⟩ <;> simp [lcLoop, Tg.store, holds, eval, argOf, Arg.peek, tyD, wipeE, numOf]
      have hi2 : (args (P.lib (callF P (n + k + 3))) [.cut (.var 0) (.con (.int 1)) (.con .non)] [.sh (.tup [.str w, a, b]), .ow true (.lst []), .no]).bind (walkB .seq) = .ok [a, b] [.sh (.tup [.str w, a, b]), .ow true (.lst []), .no] := walk_seq (fr := false) (by simp) (.inl (by simp [eval, argOf, Arg.peek, partOf, cutD, c1]))
      have lc2 := lc_of (L := P.lib (callF P (n + k + 3))) (elt := .var 2) (own := [2]) (tg := .name 2) (conds := [.isin (.var 2) [.tuple]]) hi2 lcn
      have a2 : exec (P.lib (callF P (n + k + 3))) (.app 1 (.lc (.var 2) [2] (.name 2) .seq [.cut (.var 0) (.con (.int 1)) (.con .non)] [.isin (.var 2) [.tuple]])) [.sh (.tup [.str w, a, b]), .ow true (.lst []), .no] = .ok .nx [.sh (.tup [.str w, a, b]), .ow true (.lst [.lst ((numOf a ++ numOf b).map nD)]), .no] := by
        simp only [exec, List.getElem?_cons_succ, List.getElem?_cons_zero, lc2, Res.bind_ok]
        rfl
      have lo2 : Lots [D.lst ((numOf a ++ numOf b).map nD)] [numOf a ++ numOf b] := .cons (.inr rfl) .nil
      have fl : [numOf a ++ numOf b].flatten = numOf a ++ numOf b := by simp
      have hl2 : (numOf a ++ numOf b).length ≤ 2 := by
        rcases ha.is with ⟨i, rfl, _⟩ | ⟨p, _, rfl⟩ <;> rcases hb.is with ⟨j, rfl, _⟩ | ⟨r, _, rfl⟩ <;> simp [numOf]
      have sub1 : ∀ p ∈ numOf a ++ numOf b, p ∈ pool := sub (k + 1)
      have tg := c_together (n + k + 1) M _ _ _ (.inr rfl) lo2 (by rw [fl]; omega) (by rw [fl]; exact fun p hp' => (hp p (sub1 p hp')).le (by decide)) (by rw [fl]; exact hM.sub sub1)
      rw [fl] at tg
      have e3 : numsF (k + 1 + 1) (.tup [.str w, a, b]) = numOf a ++ numOf b := rfl
      rw [e3]
      rw [ite_go (fr := false) (by simp) (by rcases hw with rfl | rfl <;> simp [eval, argOf, Arg.peek, cmpD_eqs]), ss_nx a2]
      generalize (numOf a ++ numOf b).map nD = xs at *
      simp [execs, exec, eval, args, argOf, Arg.peek, doCall, takes, gives, bT, f15, tg, outF]
    · have hne : ∀ w a b, d ≠ .tup [.str w, a, b] := fun w a b e => hcm ⟨w, a, b, e⟩
      have cnd : eval (P.lib (callF P (n + k + 3))) (.or (.cmp .eq (.ix (.var 0) (.con (.int 0))) (.con (.str "less"))) (.cmp .eq (.ix (.var 0) (.con (.int 0))) (.con (.str "same")))) [.sh d, .ow true (.lst ((partsF d).map fun y => .tup ((srt (numsF (k + 1) y)).map nD))), .no] = .ok (.bl false, false) [.sh d, .ow true (.lst ((partsF d).map fun y => .tup ((srt (numsF (k + 1) y)).map nD))), .no] := by
        generalize (partsF d).map (fun y => D.tup ((srt (numsF (k + 1) y)).map nD)) = xs
        cases h with
        | yes => simp [eval, argOf, Arg.peek, cmpD_eqs]
        | cmp _ _ w a b hw ha hb => exact absurd rfl (hne _ _ _)
        | not _ _ x h => simp [eval, argOf, Arg.peek, cmpD_eqs]
        | qu _ _ w x hw h => rcases hw with rfl | rfl <;> simp [eval, argOf, Arg.peek, cmpD_eqs]
        | lst _ _ w ys hw h0 hz h => rcases hw with rfl | rfl <;> simp [eval, argOf, Arg.peek, cmpD_eqs]
      have fl : ((partsF d).map fun y => srt (numsF (k + 1) y)).flatten = (partsF d).flatMap fun y => srt (numsF (k + 1) y) := by rw [List.flatMap_def]
      have nm : ∀ y ∈ partsF d, ∀ p ∈ numsF (k + 1) y, p ∈ pool := fun y hy p hp' => by
        obtain ⟨_, q', m', h2⟩ := Fq.part h y hy
        exact numsF_pool h2 _ p hp'
      have sub2 : ∀ p ∈ (partsF d).flatMap fun y => srt (numsF (k + 1) y), p ∈ pool := fun p hp' => by
        obtain ⟨y, hy, hq⟩ := List.mem_flatMap.mp hp'
        exact nm y hy p (srt_mem.mp hq)
      have ln : ((partsF d).flatMap fun y => srt (numsF (k + 1) y)).length ≤ 50 * (partsF d).length := flat_len _ fun y hy => Nat.le_trans (srt_pool hnz (nm y hy)) hz
      have tg := c_together (n + k + 1) M _ _ _ (.inr rfl) lo1 (by rw [fl]; omega) (by rw [fl]; exact fun p hp' => (hp p (sub2 p hp')).le (by decide)) (by rw [fl]; exact hM.sub sub2)
      rw [fl, srt_flat fun y hy p hp' => hnz p (nm y hy p hp'), ← numsF_parts h (k + 1) hne] at tg
      rw [ite_no (by simp) cnd]
      generalize (partsF d).map (fun y => D.tup ((srt (numsF (k + 1) y)).map nD)) = xs at *
      simp [execs, exec, eval, args, argOf, Arg.peek, doCall, takes, gives, bT, f15, tg, outF]
end
end Vk21


set_option Elab.async false
set_option linter.all false
set_option maxRecDepth 100000
set_option maxHeartbeats 4000000
namespace Vk21
open Pi Lk21
section
variable {cs pool : List Nu} (hc : ∀ p ∈ cs, Nb 110 p) (hp : ∀ p ∈ pool, Nb 110 p)
include hc hp
theorem c_true_by (n : Nat) {q : Nat} {m : Int} {d : D} (h : Fq pool q m d) : ∀ (k : Nat), d.depth ≤ k → q ≤ 2 → (q = 0 ∨ cs.length ≤ 3) → ∀ pl : List Nu, (pl.length : Int) = m → pl.length + q ≤ 6 → (∀ p ∈ pl, Nb (kz q) p) →
    callF P (n + k + 6) 22 [.sh (.tup (cs.map nD)), .sh d, .sh (.tup (pl.map nD))] = .ok (.bl (trueF cs (k + 1) d pl)) false [.sh (.tup (cs.map nD)), .sh d, .sh (.tup (pl.map nD))] := by
  induction h with
  | yes q m =>
    intro k hd hq2 hcq pl hm hl hb
    rw [callF_of g_true_by rfl rfl]
    generalize cs.map nD = C
    generalize pl.map nD = Y
    simp [f22, b22, execs, exec, eval, argOf, Arg.peek, outF, Tg.store, cmpD_eqs, trueF_yes]
  | cmp q m w a b hw ha hb =>
    intro k hd hq2 hcq pl hm hl hbb
    have kz1 : 110 ≤ kz q ∧ kz q ≤ 930 := by
      unfold kz; split <;> decide
    have e1 := c_term_worth (n + k + 4) pool pl m a ha hm
    have e2 := c_term_worth (n + k + 4) pool pl m b hb hm
    have n1 := (wth_nb ha hm kz1.1 hp hbb).le (show kz q ≤ 2000 by omega)
    have n2 := (wth_nb hb hm kz1.1 hp hbb).le (show kz q ≤ 2000 by omega)
    have e3 := c_ahead2 (n + k + 4) _ _ n1 n2
    have bW : (P.lib (callF P (n + k + 5))).bor 14 = f14.bor := lib_bor g_term_worth _
    have bA : (P.lib (callF P (n + k + 5))).bor 11 = f11.bor := lib_bor g_ahead _
    have e4 : cmpD .eq (nD (wth pl a)) (nD (wth pl b)) = some (decide (wth pl a = wth pl b)) := by
      rw [cmpD_eq (by rw [nD_depth]; decide) (by rw [nD_depth]; decide), nD_eqb]
    rw [callF_of g_true_by rfl rfl]
    have tl := trueF_less (cs := cs) (pl := pl) (k := k) (a := a) (b := b)
    have ts := trueF_same (cs := cs) (pl := pl) (k := k) (a := a) (b := b)
    generalize cs.map nD = C at *
    generalize pl.map nD = Y at *
    generalize hu : wth pl a = u at *
    generalize hv : wth pl b = v at *
    generalize hU : nD u = U at *
    generalize hV : nD v = V at *
    rcases hw with rfl | rfl
    · rw [tl]
      simp [f22, b22, execs, exec, eval, args, argOf, Arg.peek, outF, Tg.store, cmpD_eqs, doCall, takes, gives, bW, f14, bA, f11, e1, e2, e3]
    · rw [ts]
      simp [f22, b22, execs, exec, eval, args, argOf, Arg.peek, outF, Tg.store, cmpD_eqs, doCall, takes, gives, bW, f14, bA, f11, e1, e2, e4]
  | not q m x h ih =>
    intro k hd hq2 hcq pl hm hl hb
    rw [depth_tup, depths_cons, depths_cons] at hd
    obtain ⟨j, rfl⟩ : ∃ j, k = j + 1 := ⟨k - 1, by omega⟩
    have e := ih j (by omega) hq2 hcq pl hm hl hb
    have e : callF P (n + (j + 1) + 5) 22 [.sh (.tup (cs.map nD)), .sh x, .sh (.tup (pl.map nD))] = _ := (congrArg (fun f => callF P f 22 [.sh (.tup (cs.map nD)), .sh x, .sh (.tup (pl.map nD))]) (show n + (j + 1) + 5 = n + j + 6 by omega)).trans e
    rw [callF_of g_true_by rfl rfl, trueF_not]
    have bF : (P.lib (callF P (n + (j + 1) + 5))).bor 22 = f22.bor := lib_bor g_true_by _
    generalize cs.map nD = C at *
    generalize pl.map nD = Y at *
    simp [f22, b22, execs, exec, eval, args, argOf, Arg.peek, outF, Tg.store, cmpD_eqs, doCall, takes, gives, bF, e]
  | lst q m w ys hw h0 hz h ih =>
    intro k hd hq2 hcq pl hm hl hb
    rw [depth_tup, depths_cons, depths_cons, depth_tup] at hd
    obtain ⟨j, rfl⟩ : ∃ j, k = j + 1 := ⟨k - 1, by omega⟩
    have e : ∀ y ∈ ys, callF P (n + (j + 1) + 5) 22 [.sh (.tup (cs.map nD)), .sh y, .sh (.tup (pl.map nD))] = .ok (.bl (trueF cs (j + 1) y pl)) false [.sh (.tup (cs.map nD)), .sh y, .sh (.tup (pl.map nD))] := fun y hy => by
      have := ih y hy j (by have := depths_mem hy; omega) hq2 hcq pl hm hl hb
      rw [show n + (j + 1) + 5 = n + j + 6 by omega]; exact this
    rw [callF_of g_true_by rfl rfl]
    show outF 3 (execs (P.lib (callF P (n + (j + 1) + 5))) [.asg (.name 3) (.ix (.var 1) (.con (.int 0))), .ite (.or (.cmp .eq (.var 3) (.con (.str "less"))) (.cmp .eq (.var 3) (.con (.str "same")))) [.par [4, 5] [.call 14 [.ix (.var 1) (.con (.int 1)), .var 2] [0, 1], .call 14 [.ix (.var 1) (.con (.int 2)), .var 2] [0, 1]], .ret (.ite (.cmp .eq (.var 3) (.con (.str "less"))) (.call 11 [.var 4, .var 5] [0, 1]) (.cmp .eq (.var 4) (.var 5)))] [], .ite (.cmp .eq (.var 3) (.con (.str "not"))) [.ret (.not (.call 22 [.var 0, .ix (.var 1) (.con (.int 1)), .var 2] [0, 1, 2]))] [], .ite (.cmp .eq (.var 3) (.con (.str "both"))) [.ret (.bi .all [.lc (.call 22 [.var 0, .var 4, .var 2] [0, 1, 2]) [4] (.name 4) .seq [.ix (.var 1) (.con (.int 1))] []])] [], .ite (.cmp .eq (.var 3) (.con (.str "either"))) [.ret (.bi .any [.lc (.call 22 [.var 0, .var 4, .var 2] [0, 1, 2]) [4] (.name 4) .seq [.ix (.var 1) (.con (.int 1))] []])] [], .ite (.cmp .eq (.var 3) (.con (.str "some"))) [.ret (.bi .any [.lc (.call 22 [.var 0, .ix (.var 1) (.con (.int 1)), .bin .add (.var 2) (.tup [.var 4])] [0, 1, 2]) [4] (.name 4) .seq [.call 17 [.var 0, .var 2] [0, 1]] []])] [], .ite (.cmp .eq (.var 3) (.con (.str "all"))) [.ret (.bi .all [.lc (.call 22 [.var 0, .ix (.var 1) (.con (.int 1)), .bin .add (.var 2) (.tup [.var 4])] [0, 1, 2]) [4] (.name 4) .seq [.call 17 [.var 0, .var 2] [0, 1]] []])] [], .ret (.con (.bl true))] [.sh (.tup (cs.map nD)), .sh (.tup [.str w, .tup ys]), .sh (.tup (pl.map nD)), .no, .no, .no]) = _
    have bF : (P.lib (callF P (n + (j + 1) + 5))).bor 22 = f22.bor := lib_bor g_true_by _
    have tb := trueF_both (cs := cs) (pl := pl) (k := j + 1) (ys := ys)
    have te := trueF_either (cs := cs) (pl := pl) (k := j + 1) (ys := ys)
    generalize cs.map nD = C at *
    generalize pl.map nD = Y at *
    have hi : (args (P.lib (callF P (n + (j + 1) + 5))) [.ix (.var 1) (.con (.int 1))] [.sh (.tup C), .sh (.tup [.str w, .tup ys]), .sh (.tup Y), .sh (.str w), .no, .no]).bind (walkB .seq) = .ok ys [.sh (.tup C), .sh (.tup [.str w, .tup ys]), .sh (.tup Y), .sh (.str w), .no, .no] := walk_seq (fr := false) (by simp) (.inl (by simp [eval, argOf, Arg.peek]))
    have lc : eval (P.lib (callF P (n + (j + 1) + 5))) (.lc (.call 22 [.var 0, .var 4, .var 2] [0, 1, 2]) [4] (.name 4) .seq [.ix (.var 1) (.con (.int 1))] []) [.sh (.tup C), .sh (.tup [.str w, .tup ys]), .sh (.tup Y), .sh (.str w), .no, .no] = .ok (.lst (ys.map fun y => .bl (trueF cs (j + 1) y pl)), true) [.sh (.tup C), .sh (.tup [.str w, .tup ys]), .sh (.tup Y), .sh (.str w), .no, .no] :=
      lc_map (fun y => .bl (trueF cs (j + 1) y pl)) hi (by omega) fun y hy => ⟨_, [.sh (.tup C), .sh (.tup [.str w, .tup ys]), .sh (.tup Y), .sh (.str w), .sh y, .no], false, rfl, by
        have e := e y hy
        simp [wipeE, eval, args, argOf, Arg.peek, doCall, takes, gives, bF, f22, e], rfl⟩
    rcases hw with rfl | rfl
    · have b1 := bi_one (f := .all) (by simp) lc
      rw [biD_all, allBls_map, Option.map_some, pureR_some, all_map_id, ← tb] at b1
      rw [ss_nx (env' := [.sh (.tup C), .sh (.tup [.str "both", .tup ys]), .sh (.tup Y), .sh (.str "both"), .no, .no]) (by simp [exec, eval, argOf, Arg.peek, Tg.store]), ite_no (fr := false) (env' := [.sh (.tup C), .sh (.tup [.str "both", .tup ys]), .sh (.tup Y), .sh (.str "both"), .no, .no]) (by simp) (by simp [eval, argOf, Arg.peek, cmpD_eqs]), ite_no (fr := false) (env' := [.sh (.tup C), .sh (.tup [.str "both", .tup ys]), .sh (.tup Y), .sh (.str "both"), .no, .no]) (by simp) (by simp [eval, argOf, Arg.peek, cmpD_eqs]), ite_ret (fr := false) (by simp) (by simp [eval, argOf, Arg.peek, cmpD_eqs]) (by simp) b1]
      rfl
    · have b1 := bi_one (f := .any) (by simp) lc
      rw [biD_any, allBls_map, Option.map_some, pureR_some, any_map_id, ← te] at b1
      rw [ss_nx (env' := [.sh (.tup C), .sh (.tup [.str "either", .tup ys]), .sh (.tup Y), .sh (.str "either"), .no, .no]) (by simp [exec, eval, argOf, Arg.peek, Tg.store]), ite_no (fr := false) (env' := [.sh (.tup C), .sh (.tup [.str "either", .tup ys]), .sh (.tup Y), .sh (.str "either"), .no, .no]) (by simp) (by simp [eval, argOf, Arg.peek, cmpD_eqs]), ite_no (fr := false) (env' := [.sh (.tup C), .sh (.tup [.str "either", .tup ys]), .sh (.tup Y), .sh (.str "either"), .no, .no]) (by simp) (by simp [eval, argOf, Arg.peek, cmpD_eqs]), ite_no (fr := false) (env' := [.sh (.tup C), .sh (.tup [.str "either", .tup ys]), .sh (.tup Y), .sh (.str "either"), .no, .no]) (by simp) (by simp [eval, argOf, Arg.peek, cmpD_eqs]), ite_ret (fr := false) (by simp) (by simp [eval, argOf, Arg.peek, cmpD_eqs]) (by simp) b1]
      rfl
  | qu q m w x hw h ih =>
    intro k hd hq2 hcq pl hm hl hb
    rw [depth_tup, depths_cons, depths_cons] at hd
    obtain ⟨j, rfl⟩ : ∃ j, k = j + 1 := ⟨k - 1, by omega⟩
    have hcl : cs.length ≤ 3 := hcq.resolve_left (by omega)
    have kq : kz (q + 1) ≤ 460 ∧ 110 ≤ kz (q + 1) ∧ 2 * kz (q + 1) + 6 ≤ kz q ∧ kz (q + 1) ≤ kz q := by
      have : q = 0 ∨ q = 1 := by omega
      rcases this with rfl | rfl <;> simp [kz]
    have nbl : ∀ p ∈ cs ++ pl, Nb (kz (q + 1)) p := fun p hp' => (List.mem_append.mp hp').elim (fun h => (hc p h).le kq.2.1) fun h => hb p h
    obtain ⟨M, hM⟩ := mul_app (a := 110) (b := kz (q + 1)) hc hb kq.2.1 (by
      have : kz (q + 1) * (cs.length + pl.length) ≤ 460 * 9 := Nat.mul_le_mul kq.1 (by omega)
      omega)
    have ec := c_candidates (n + j + 2) M cs pl (by omega) (fun p hp' => (nbl p hp').le (by omega)) hM
    have nc : ∀ p ∈ candN (srt (cs ++ pl)), Nb (kz q) p := fun p hp' => by
      rw [← row_one] at hp'
      exact (row_nb (many := 1) (by decide) (srt_nb nbl) p hp').le kq.2.2.1
    have lcand : (candN (srt (cs ++ pl))).length ≤ 400 := by
      rw [← row_one]
      refine row_len (by decide) (Nat.le_trans (srt_len _) ?_)
      rw [List.length_append]; omega
    have e : ∀ p ∈ candN (srt (cs ++ pl)), callF P (n + (j + 1) + 5) 22 [.sh (.tup (cs.map nD)), .sh x, .sh (.tup (pl.map nD ++ [nD p]))] = .ok (.bl (trueF cs (j + 1) x (pl ++ [p]))) false [.sh (.tup (cs.map nD)), .sh x, .sh (.tup (pl.map nD ++ [nD p]))] := fun p hp' => by
      have := ih j (by omega) (by omega) (.inr hcl) (pl ++ [p]) (by rw [List.length_append]; simp; omega) (by rw [List.length_append]; simp; omega) (fun r hr => by
        rcases List.mem_append.mp hr with h | h
        · exact (hb r h).le kq.2.2.2
        · rw [List.mem_singleton] at h; subst h; exact nc r hp')
      rw [List.map_append] at this
      rw [show n + (j + 1) + 5 = n + j + 6 by omega]; exact this
    have ts := trueF_some (cs := cs) (pl := pl) (k := j + 1) (x := x)
    have ta := trueF_all (cs := cs) (pl := pl) (k := j + 1) (x := x)
    rw [show n + (j + 1) + 6 = n + j + 6 + 1 by omega, callF_of g_true_by rfl rfl]
    show outF 3 (execs (P.lib (callF P (n + j + 6))) [.asg (.name 3) (.ix (.var 1) (.con (.int 0))), .ite (.or (.cmp .eq (.var 3) (.con (.str "less"))) (.cmp .eq (.var 3) (.con (.str "same")))) [.par [4, 5] [.call 14 [.ix (.var 1) (.con (.int 1)), .var 2] [0, 1], .call 14 [.ix (.var 1) (.con (.int 2)), .var 2] [0, 1]], .ret (.ite (.cmp .eq (.var 3) (.con (.str "less"))) (.call 11 [.var 4, .var 5] [0, 1]) (.cmp .eq (.var 4) (.var 5)))] [], .ite (.cmp .eq (.var 3) (.con (.str "not"))) [.ret (.not (.call 22 [.var 0, .ix (.var 1) (.con (.int 1)), .var 2] [0, 1, 2]))] [], .ite (.cmp .eq (.var 3) (.con (.str "both"))) [.ret (.bi .all [.lc (.call 22 [.var 0, .var 4, .var 2] [0, 1, 2]) [4] (.name 4) .seq [.ix (.var 1) (.con (.int 1))] []])] [], .ite (.cmp .eq (.var 3) (.con (.str "either"))) [.ret (.bi .any [.lc (.call 22 [.var 0, .var 4, .var 2] [0, 1, 2]) [4] (.name 4) .seq [.ix (.var 1) (.con (.int 1))] []])] [], .ite (.cmp .eq (.var 3) (.con (.str "some"))) [.ret (.bi .any [.lc (.call 22 [.var 0, .ix (.var 1) (.con (.int 1)), .bin .add (.var 2) (.tup [.var 4])] [0, 1, 2]) [4] (.name 4) .seq [.call 17 [.var 0, .var 2] [0, 1]] []])] [], .ite (.cmp .eq (.var 3) (.con (.str "all"))) [.ret (.bi .all [.lc (.call 22 [.var 0, .ix (.var 1) (.con (.int 1)), .bin .add (.var 2) (.tup [.var 4])] [0, 1, 2]) [4] (.name 4) .seq [.call 17 [.var 0, .var 2] [0, 1]] []])] [], .ret (.con (.bl true))] [.sh (.tup (cs.map nD)), .sh (.tup [.str w, x]), .sh (.tup (pl.map nD)), .no, .no, .no]) = _
    have bF : (P.lib (callF P (n + j + 6))).bor 22 = f22.bor := lib_bor g_true_by _
    have bC : (P.lib (callF P (n + j + 6))).bor 17 = f17.bor := lib_bor g_candidates _
    rw [show n + (j + 1) + 5 = n + j + 6 by omega] at e
    have hlp : (pl.map nD).length + 1 ≤ 100000 := by rw [List.length_map]; omega
    generalize candN (srt (cs ++ pl)) = cnd at *
    generalize cs.map nD = C at *
    generalize pl.map nD = Y at *
    have hi : (args (P.lib (callF P (n + j + 6))) [.call 17 [.var 0, .var 2] [0, 1]] [.sh (.tup C), .sh (.tup [.str w, x]), .sh (.tup Y), .sh (.str w), .no, .no]).bind (walkB .seq) = .ok (cnd.map nD) [.sh (.tup C), .sh (.tup [.str w, x]), .sh (.tup Y), .sh (.str w), .no, .no] := walk_seq (fr := true) (by simp) (.inr (by
      generalize cnd.map nD = cs2 at *
      simp [eval, args, argOf, Arg.peek, doCall, takes, gives, bC, f17, ec]))
    have lc : eval (P.lib (callF P (n + j + 6))) (.lc (.call 22 [.var 0, .ix (.var 1) (.con (.int 1)), .bin .add (.var 2) (.tup [.var 4])] [0, 1, 2]) [4] (.name 4) .seq [.call 17 [.var 0, .var 2] [0, 1]] []) [.sh (.tup C), .sh (.tup [.str w, x]), .sh (.tup Y), .sh (.str w), .no, .no] = .ok (.lst (cnd.map fun p => .bl (trueF cs (j + 1) x (pl ++ [p]))), true) [.sh (.tup C), .sh (.tup [.str w, x]), .sh (.tup Y), .sh (.str w), .no, .no] :=
      lc_mapN (fun p => .bl (trueF cs (j + 1) x (pl ++ [p]))) hi (by omega) fun p hp' => ⟨_, [.sh (.tup C), .sh (.tup [.str w, x]), .sh (.tup Y), .sh (.str w), .sh (nD p), .no], false, rfl, by
        have e := e p hp'
        generalize nD p = p' at *
        simp [wipeE, eval, evals, args, argOf, Arg.peek, doCall, takes, gives, bF, f22, hlp, e], rfl⟩
    rcases hw with rfl | rfl
    · have b1 := bi_one (f := .any) (by simp) lc
      rw [biD_any, allBls_map, Option.map_some, pureR_some, any_map_id, ← ts] at b1
      rw [ss_nx (env' := [.sh (.tup C), .sh (.tup [.str "some", x]), .sh (.tup Y), .sh (.str "some"), .no, .no]) (by simp [exec, eval, argOf, Arg.peek, Tg.store]), ite_no (fr := false) (env' := [.sh (.tup C), .sh (.tup [.str "some", x]), .sh (.tup Y), .sh (.str "some"), .no, .no]) (by simp) (by simp [eval, argOf, Arg.peek, cmpD_eqs]), ite_no (fr := false) (env' := [.sh (.tup C), .sh (.tup [.str "some", x]), .sh (.tup Y), .sh (.str "some"), .no, .no]) (by simp) (by simp [eval, argOf, Arg.peek, cmpD_eqs]), ite_no (fr := false) (env' := [.sh (.tup C), .sh (.tup [.str "some", x]), .sh (.tup Y), .sh (.str "some"), .no, .no]) (by simp) (by simp [eval, argOf, Arg.peek, cmpD_eqs]), ite_no (fr := false) (env' := [.sh (.tup C), .sh (.tup [.str "some", x]), .sh (.tup Y), .sh (.str "some"), .no, .no]) (by simp) (by simp [eval, argOf, Arg.peek, cmpD_eqs]), ite_ret (fr := false) (by simp) (by simp [eval, argOf, Arg.peek, cmpD_eqs]) (by simp) b1]
      rfl
    · have b1 := bi_one (f := .all) (by simp) lc
      rw [biD_all, allBls_map, Option.map_some, pureR_some, all_map_id, ← ta] at b1
      rw [ss_nx (env' := [.sh (.tup C), .sh (.tup [.str "all", x]), .sh (.tup Y), .sh (.str "all"), .no, .no]) (by simp [exec, eval, argOf, Arg.peek, Tg.store]), ite_no (fr := false) (env' := [.sh (.tup C), .sh (.tup [.str "all", x]), .sh (.tup Y), .sh (.str "all"), .no, .no]) (by simp) (by simp [eval, argOf, Arg.peek, cmpD_eqs]), ite_no (fr := false) (env' := [.sh (.tup C), .sh (.tup [.str "all", x]), .sh (.tup Y), .sh (.str "all"), .no, .no]) (by simp) (by simp [eval, argOf, Arg.peek, cmpD_eqs]), ite_no (fr := false) (env' := [.sh (.tup C), .sh (.tup [.str "all", x]), .sh (.tup Y), .sh (.str "all"), .no, .no]) (by simp) (by simp [eval, argOf, Arg.peek, cmpD_eqs]), ite_no (fr := false) (env' := [.sh (.tup C), .sh (.tup [.str "all", x]), .sh (.tup Y), .sh (.str "all"), .no, .no]) (by simp) (by simp [eval, argOf, Arg.peek, cmpD_eqs]), ite_no (fr := false) (env' := [.sh (.tup C), .sh (.tup [.str "all", x]), .sh (.tup Y), .sh (.str "all"), .no, .no]) (by simp) (by simp [eval, argOf, Arg.peek, cmpD_eqs]), ite_ret (fr := false) (by simp) (by simp [eval, argOf, Arg.peek, cmpD_eqs]) (by simp) b1]
      rfl
end
end Vk21


set_option Elab.async false
set_option linter.all false
set_option maxRecDepth 100000
set_option maxHeartbeats 4000000
namespace Vk21
open Pi Lk21
theorem x_check_count (n : Nat) (i : Int) (h : i < 0) : callF P (n + 3) 4 [.sh (.int i)] = .ex ⟨1, none⟩ := by
  have e := c_is_from n 0 (.int i)
  have h' : ¬ 0 ≤ i := by omega
  rw [callF_of g_check_count rfl rfl]
  simp [f4, b4, execs, exec, eval, argOf, Arg.peek, pureR, args, peeks, outF, doCall, takes, gives, lib_bor g_is_from, f1, e, h']
theorem k_check_count (n : Nat) (i : Int) (h : 0 ≤ i) : callF P (n + 3) 4 [.sh (.int i)] = .ok .non false [.sh (.int i)] := by
  have e := c_is_from n 0 (.int i)
  rw [callF_of g_check_count rfl rfl]
  simp [f4, b4, execs, exec, eval, argOf, Arg.peek, pureR, args, peeks, outF, doCall, takes, gives, lib_bor g_is_from, f1, e, h]
theorem k_check_formula (n k : Nat) (m : Int) (d : D) (hd : d.depth ≤ k) (hk : k ≤ 60) (hf : D.fine d) : callF P (n + k + 6) 19 [.sh (.int m), .sh d] = if isF (k + 1) m d = true then .ok .non false [.sh (.int m), .sh d] else .ex ⟨3, none⟩ := by
  have e := c_is_formula_in n k m d hd hk hf
  rw [callF_of g_check_formula rfl rfl]
  cases h : isF (k + 1) m d <;> rw [h] at e <;> simp [f19, b19, execs, exec, eval, argOf, Arg.peek, pureR, args, peeks, outF, doCall, takes, gives, lib_bor g_is_formula_in, f18, e]
theorem k_check_place (n : Nat) (m : Int) (xs : List D) (hm : (xs.length : Int) = m) (hx : ∀ x ∈ xs, isNum x = true) : callF P (n + 4) 12 [.sh (.int m), .sh (.tup xs)] = .ok .non false [.sh (.int m), .sh (.tup xs)] := by
  have e := c_is_tuple (n + 2) m (.tup xs)
  simp only [hm, decide_true] at e
  have e : callF P (n + 3) 3 [.sh (.int m), .sh (.tup xs)] = _ := e
  have bT : (P.lib (callF P (n + 3))).bor 3 = f3.bor := lib_bor g_is_tuple _
  have bN : (P.lib (callF P (n + 3))).bor 5 = f5.bor := lib_bor g_is_number _
  have hzl : ((List.range xs.length).zipWith (fun (k : Nat) x => D.tup [.int k, x]) xs).length = xs.length := by rw [List.length_zipWith, List.length_range]; omega
  have lp := Ok_fo (L := P.lib (callF P (n + 3))) (tg := .tup [2, 3]) (k := .enum) (b := [.ite (.not (.call 5 [.var 3] [0])) [.raisE 2 "index" (.var 2)] []]) (env := [.sh (.int m), .sh (.tup xs), .no, .no]) (es := [.var 1]) (env1 := [.sh (.int m), .sh (.tup xs), .no, .no]) (items := (List.range xs.length).zipWith (fun (k : Nat) x => D.tup [.int k, x]) xs) rfl
    (Ok_loop (fun j env => ∃ y2 y3, env = [.sh (.int m), .sh (.tup xs), y2, y3]) ⟨.no, .no, rfl⟩ fun j hj env ⟨y2, y3, he⟩ => by
      subst he
      rw [hzl] at hj
      have ij : ((List.range xs.length).zipWith (fun (k : Nat) x => D.tup [.int k, x]) xs)[j]'(by rw [hzl]; exact hj) = .tup [.int j, xs[j]] := by
        rw [List.getElem_zipWith, List.getElem_range]
      rw [ij]
      have e2 := c_is_number n xs[j]
      rw [hx _ (List.getElem_mem hj)] at e2
      generalize xs[j] = x at *
      exact Ok_turnT (e1 := [.sh (.int m), .sh (.tup xs), .sh (.int j), .sh x]) rfl (Ok.of (a := .nx) (e := [.sh (.int m), .sh (.tup xs), .sh (.int j), .sh x]) (by simp [execs, exec, eval, args, argOf, Arg.peek, doCall, takes, gives, bN, f5, e2]) ⟨.inl rfl, _, _, rfl⟩))
  obtain ⟨fl, env2, hx, rfl, y2, y3, rfl⟩ := lp.ex
  rw [callF_of g_check_place rfl rfl]
  show outF 2 (execs (P.lib (callF P (n + 3))) [.ite (.not (.call 3 [.var 0, .var 1] [0, 1])) [.raisE 2 "index" (.neg (.con (.int 1)))] [], .fo (.tup [2, 3]) .enum [.var 1] [.ite (.not (.call 5 [.var 3] [0])) [.raisE 2 "index" (.var 2)] []]] [.sh (.int m), .sh (.tup xs), .no, .no]) = _
  rw [ite_no (fr := false) (env' := [.sh (.int m), .sh (.tup xs), .no, .no]) (by simp) (by simp [eval, args, argOf, Arg.peek, doCall, takes, gives, bT, f3, e]), ss_nx hx]
  rfl
theorem x_check_place (n : Nat) (m : Int) (d : D) (h : ∀ xs, d = .tup xs → (xs.length : Int) ≠ m) : callF P (n + 4) 12 [.sh (.int m), .sh d] = .ex ⟨2, some ("index", .int (-1))⟩ := by
  have e := c_is_tuple (n + 2) m d
  have e : callF P (n + 3) 3 [.sh (.int m), .sh d] = .ok (.bl false) false [.sh (.int m), .sh d] := by
    refine Eq.trans e ?_
    cases d with
    | tup xs => simp [h xs rfl]
    | _ => rfl
  rw [callF_of g_check_place rfl rfl]
  simp [f12, b12, execs, exec, eval, args, argOf, Arg.peek, doCall, takes, gives, lib_bor g_is_tuple, f3, e, outF, fldOk]
theorem x_check_place0 (n : Nat) (m : Int) (x : D) (xs : List D) (hm : ((x :: xs).length : Int) = m) (hx : isNum x = false) : callF P (n + 4) 12 [.sh (.int m), .sh (.tup (x :: xs))] = .ex ⟨2, some ("index", .int 0)⟩ := by
  have e := c_is_tuple (n + 2) m (.tup (x :: xs))
  simp only [hm, decide_true] at e
  have e : callF P (n + 3) 3 [.sh (.int m), .sh (.tup (x :: xs))] = _ := e
  have e2 := c_is_number n x
  rw [hx] at e2
  have bT : (P.lib (callF P (n + 3))).bor 3 = f3.bor := lib_bor g_is_tuple _
  have bN : (P.lib (callF P (n + 3))).bor 5 = f5.bor := lib_bor g_is_number _
  have hi : (args (P.lib (callF P (n + 3))) [.var 1] [.sh (.int m), .sh (.tup (x :: xs)), .no, .no]).bind (walkB .enum) = .ok ((List.range (x :: xs).length).zipWith (fun (k : Nat) x => D.tup [.int k, x]) (x :: xs)) [.sh (.int m), .sh (.tup (x :: xs)), .no, .no] := rfl
  have hz : ∃ r, (List.range (x :: xs).length).zipWith (fun (k : Nat) x => D.tup [.int k, x]) (x :: xs) = .tup [.int 0, x] :: r := by
    rw [List.length_cons, List.range_succ_eq_map, List.zipWith_cons_cons]
    exact ⟨_, rfl⟩
  obtain ⟨r, hr⟩ := hz
  rw [hr] at hi
  rw [callF_of g_check_place rfl rfl]
  show outF 2 (execs (P.lib (callF P (n + 3))) [.ite (.not (.call 3 [.var 0, .var 1] [0, 1])) [.raisE 2 "index" (.neg (.con (.int 1)))] [], .fo (.tup [2, 3]) .enum [.var 1] [.ite (.not (.call 5 [.var 3] [0])) [.raisE 2 "index" (.var 2)] []]] [.sh (.int m), .sh (.tup (x :: xs)), .no, .no]) = _
  rw [ite_no (fr := false) (env' := [.sh (.int m), .sh (.tup (x :: xs)), .no, .no]) (by simp) (by simp [eval, args, argOf, Arg.peek, doCall, takes, gives, bT, f3, e])]
  have lp : exec (P.lib (callF P (n + 3))) (.fo (.tup [2, 3]) .enum [.var 1] [.ite (.not (.call 5 [.var 3] [0])) [.raisE 2 "index" (.var 2)] []]) [.sh (.int m), .sh (.tup (x :: xs)), .no, .no] = .ex ⟨2, some ("index", .int 0)⟩ [.sh (.int m), .sh (.tup (x :: xs)), .sh (.int 0), .sh x] := by
    rw [exec, hi, Res.bind_ok, foLoop]
    simp [Tg.store, storeT, execs, exec, eval, args, argOf, Arg.peek, doCall, takes, gives, bN, f5, e2, fldOk]
  rw [execs, lp]
  rfl
section
variable {pool : List Nu} (hp : ∀ p ∈ pool, NmP p) (hz : pool.length ≤ 50)
include hp hz
theorem c_is_true (n k : Nat) {q : Nat} {m : Int} {d : D} (h : Fq pool q m d) (hm0 : 0 ≤ m) (hd : d.depth ≤ k) (hk : k ≤ 60) (hq2 : q ≤ 2) (hcq : q = 0 ∨ pool.length ≤ 3) (pl : List Nu) (hm : (pl.length : Int) = m) (hl : pl.length + q ≤ 6) (hb : ∀ p ∈ pl, Nb (kz q) p) :
    callF P (n + k + 8) 24 [.sh (.int m), .sh d, .sh (.tup (pl.map nD))] = .ok (.bl (trueF (srt (numsF (k + 1) d)) (k + 1) d pl)) false [.sh (.int m), .sh d, .sh (.tup (pl.map nD))] := by
  have hp1 : ∀ p ∈ pool, Nb 110 p := fun p h => nm_nb (hp p h)
  have hfm := h.fm hp
  have hfine := (hfm.sm (by omega)).2
  have hisf := hfm.isF k hd
  have sub := numsF_pool h (k + 1)
  have hsl := srt_pool (fun p h => (hp1 p h).nz) sub
  obtain ⟨M, hM⟩ := mul_of (l := pool) (k := 110) hp1 (by omega)
  have e1 := k_check_count (n + k + 4) m hm0
  have e2 := k_check_formula (n + 1) k m d hd hk hfine
  rw [if_pos hisf] at e2
  have e3 := k_check_place (n + k + 3) m (pl.map nD) (by rw [List.length_map]; exact hm) fun x hx => by
    obtain ⟨p, hp', rfl⟩ := List.mem_map.mp hx
    exact nb_num (hb p hp')
  have e4 := c_numbers_in M hp1 hz hM (n + 3) k h hd
  have e5 := c_true_by (cs := srt (numsF (k + 1) d)) (pool := pool) (fun p h => hp1 p (sub p (srt_mem.mp h))) hp1 n h k hd hq2 (hcq.imp id fun h => by omega) pl hm hl hb
  have e1 : callF P (n + k + 7) 4 [.sh (.int m)] = _ := e1
  have e2 : callF P (n + k + 7) 19 [.sh (.int m), .sh d] = _ := (congrArg (fun f => callF P f 19 [.sh (.int m), .sh d]) (show n + k + 7 = n + 1 + k + 6 by omega)).trans e2
  have e3 : callF P (n + k + 7) 12 [.sh (.int m), .sh (.tup (pl.map nD))] = _ := e3
  have e4 : callF P (n + k + 6) 21 [.sh d] = _ := (congrArg (fun f => callF P f 21 [.sh d]) (show n + k + 6 = n + 3 + k + 3 by omega)).trans e4
  generalize trueF (srt (numsF (k + 1) d)) (k + 1) d pl = T at *
  generalize (srt (numsF (k + 1) d)).map nD = C at *
  generalize pl.map nD = Y at *
  have bC : (P.lib (callF P (n + k + 7))).bor 4 = f4.bor := lib_bor g_check_count _
  have bF : (P.lib (callF P (n + k + 7))).bor 19 = f19.bor := lib_bor g_check_formula _
  have bP : (P.lib (callF P (n + k + 7))).bor 12 = f12.bor := lib_bor g_check_place _
  have bI : (P.lib (callF P (n + k + 7))).bor 23 = f23.bor := lib_bor g_true_in _
  have bN : (P.lib (callF P (n + k + 6))).bor 21 = f21.bor := lib_bor g_numbers_in _
  have bB : (P.lib (callF P (n + k + 6))).bor 22 = f22.bor := lib_bor g_true_by _
  have e6 : callF P (n + k + 7) 23 [.sh d, .sh (.tup Y)] = .ok (.bl T) false [.sh d, .sh (.tup Y)] := by
    rw [callF_of g_true_in rfl rfl]
    simp [f23, b23, execs, exec, eval, args, argOf, Arg.peek, outF, doCall, takes, gives, bN, f21, e4, bB, f22, e5]
  rw [callF_of g_is_true rfl rfl]
  simp [f24, b24, execs, exec, eval, args, argOf, Arg.peek, outF, doCall, takes, gives, bC, f4, e1, bF, f19, e2, bP, f12, e3, bI, f23, e6]
end
theorem x_is_true_count (n : Nat) (i : Int) (h : i < 0) (d p : D) : callF P (n + 4) 24 [.sh (.int i), .sh d, .sh p] = .ex ⟨1, none⟩ := by
  have e := x_check_count n i h
  rw [callF_of g_is_true rfl rfl]
  simp [f24, b24, execs, exec, eval, args, argOf, Arg.peek, outF, doCall, takes, gives, lib_bor g_check_count, f4, e]
theorem x_is_true_formula (n k : Nat) (m : Int) (d p : D) (h0 : 0 ≤ m) (hd : d.depth ≤ k) (hk : k ≤ 60) (hf : D.fine d) (h : isF (k + 1) m d = false) : callF P (n + k + 7) 24 [.sh (.int m), .sh d, .sh p] = .ex ⟨3, none⟩ := by
  have e1 := k_check_count (n + k + 3) m h0
  have e2 := k_check_formula n k m d hd hk hf
  rw [h, if_neg (by simp)] at e2
  have e1 : callF P (n + k + 6) 4 [.sh (.int m)] = _ := e1
  have bC : (P.lib (callF P (n + k + 6))).bor 4 = f4.bor := lib_bor g_check_count _
  have bF : (P.lib (callF P (n + k + 6))).bor 19 = f19.bor := lib_bor g_check_formula _
  rw [callF_of g_is_true rfl rfl]
  simp [f24, b24, execs, exec, eval, args, argOf, Arg.peek, outF, doCall, takes, gives, bC, f4, e1, bF, f19, e2]
theorem x_is_true_place (n k : Nat) (m : Int) (d p : D) (x : Exc) (h0 : 0 ≤ m) (hd : d.depth ≤ k) (hk : k ≤ 60) (hf : D.fine d) (h : isF (k + 1) m d = true) (hx : callF P (n + k + 6) 12 [.sh (.int m), .sh p] = .ex x) : callF P (n + k + 7) 24 [.sh (.int m), .sh d, .sh p] = .ex x := by
  have e1 := k_check_count (n + k + 3) m h0
  have e2 := k_check_formula n k m d hd hk hf
  rw [if_pos h] at e2
  have e1 : callF P (n + k + 6) 4 [.sh (.int m)] = _ := e1
  have bC : (P.lib (callF P (n + k + 6))).bor 4 = f4.bor := lib_bor g_check_count _
  have bF : (P.lib (callF P (n + k + 6))).bor 19 = f19.bor := lib_bor g_check_formula _
  have bP : (P.lib (callF P (n + k + 6))).bor 12 = f12.bor := lib_bor g_check_place _
  rw [callF_of g_is_true rfl rfl]
  simp [f24, b24, execs, exec, eval, args, argOf, Arg.peek, outF, doCall, takes, gives, bC, f4, e1, bF, f19, e2, bP, f12, hx]
end Vk21


set_option Elab.async false
set_option linter.all false
set_option maxRecDepth 100000
set_option maxHeartbeats 4000000
namespace Vk21
open Pi Lk21
theorem low_n (n : Nat) (t b : Int) (hb : 0 < b) (hs : b.natAbs < 2 ^ 7990) : callF P (n + 1) 29 [.sh (.int t), .sh (.int b)] = .ok (nD (lowN t b)) false [.sh (.int t), .sh (.int b)] :=
  c_l_low n t b hb (by
    have h1 : b.natAbs < 2 ^ 7990 := hs
    have h2 : ((b.natAbs : Nat) : Int) < ((2 ^ 7990 : Nat) : Int) := Int.ofNat_lt.mpr h1
    rw [Int.natCast_pow] at h2
    have h3 : ((2 : Nat) : Int) ^ 7990 < 2 ^ 8000 := by decide +kernel
    omega)
def rowB : List S := [.app 4 (.ix (.var 0) (.var 5)), .ite (.cmp .lt (.bin .add (.var 5) (.con (.int 1))) (.bi .len [.var 0])) [.par [6, 7] [.ix (.var 0) (.var 5), .ix (.var 0) (.bin .add (.var 5) (.con (.int 1)))], .asg (.name 8) (.bin .sub (.bin .mul (.ix (.var 7) (.con (.int 0))) (.ix (.var 6) (.con (.int 1)))) (.bin .mul (.ix (.var 6) (.con (.int 0))) (.ix (.var 7) (.con (.int 1))))), .fo (.name 9) .range [.con (.int 1), .bin .add (.var 1) (.con (.int 1))] [.app 4 (.call 29 [.bin .add (.bin .mul (.bin .mul (.ix (.var 6) (.con (.int 0))) (.ix (.var 7) (.con (.int 1)))) (.bin .add (.var 1) (.con (.int 1)))) (.bin .mul (.var 8) (.var 9)), .bin .mul (.bin .mul (.ix (.var 6) (.con (.int 1))) (.ix (.var 7) (.con (.int 1)))) (.bin .add (.var 1) (.con (.int 1)))] [0, 1])]] []]
def gapB : List S := [.app 4 (.call 29 [.bin .add (.bin .mul (.bin .mul (.ix (.var 6) (.con (.int 0))) (.ix (.var 7) (.con (.int 1)))) (.bin .add (.var 1) (.con (.int 1)))) (.bin .mul (.var 8) (.var 9)), .bin .mul (.bin .mul (.ix (.var 6) (.con (.int 1))) (.ix (.var 7) (.con (.int 1)))) (.bin .add (.var 1) (.con (.int 1)))] [0, 1])]
theorem row_gap (n many j : Nat) (hm : many ≤ 6) (ua ub va vb : Int) (nj : Nb 990 (ua, ub)) (nj1 : Nb 990 (va, vb)) (x0 x2 x3 y9 : Sl) (acc : List Nu) (hL : acc.length ≤ 1000) :
    Ok (exec (P.lib (callF P (n + 1))) (.fo (.name 9) .range [.con (.int 1), .bin .add (.var 1) (.con (.int 1))] gapB) [x0, .sh (.int many), x2, x3, .ow true (.lst (acc.map nD)), .sh (.int j), .sh (num ua ub), .sh (num va vb), .sh (.int (va * ub - ua * vb)), y9])
      fun fl e => fl = .nx ∧ ∃ y9, e = [x0, .sh (.int many), x2, x3, .ow true (.lst ((acc ++ gapN (ua, ub) (va, vb) many).map nD)), .sh (.int j), .sh (num ua ub), .sh (num va vb), .sh (.int (va * ub - ua * vb)), y9] := by
  have bL : (P.lib (callF P (n + 1))).bor 29 = f29.bor := lib_bor g_l_low _
  have a1 : (ua * vb).natAbs < 2 ^ (990 + 990) := abs_mul nj.sz.ta nj1.sz.tb
  have a2 : (va * ub).natAbs < 2 ^ (990 + 990) := abs_mul nj1.sz.ta nj.sz.tb
  have a3 : (ub * vb).natAbs < 2 ^ (990 + 990) := abs_mul nj.sz.tb nj1.sz.tb
  have a4 := abs_sub a2 a1
  have m2 : mulOk ua vb := mulSz nj.sz.ta nj1.sz.tb
  have m3 : mulOk ub vb := mulSz nj.sz.tb nj1.sz.tb
  have pos0 : 0 < ub * vb := Int.mul_pos nj.nz.pos nj1.nz.pos
  have it : iterD .range [.int 1, .int ((many : Int) + 1)] = some (rangeD 1 many) := by
    have := iterD_range2 (a := 1) (b := (many : Int) + 1) (by omega) (by omega) (by omega)
    rwa [show ((many : Int) + 1 - 1).toNat = many by omega] at this
  have hg : (gapN (ua, ub) (va, vb) many).length = many := by simp [gapN]
  have ig : ∀ t (ht : t < many), (gapN (ua, ub) (va, vb) many)[t]'(by rw [hg]; exact ht) = lowN (ua * vb * ((many : Int) + 1) + (va * ub - ua * vb) * (1 + t)) (ub * vb * ((many : Int) + 1)) := fun t ht => by
    simp only [gapN, List.getElem_map, List.getElem_range]
    rw [Int.add_comm (t : Int) 1]
  generalize gapN (ua, ub) (va, vb) many = G at *
  generalize hw : va * ub - ua * vb = w at *
  clear hw a2
  have hi3 : (args (P.lib (callF P (n + 1))) [.con (.int 1), .bin .add (.var 1) (.con (.int 1))] [x0, .sh (.int many), x2, x3, .ow true (.lst (acc.map nD)), .sh (.int j), .sh (num ua ub), .sh (num va vb), .sh (.int w), y9]).bind (walkB .range) = .ok (rangeD 1 many) [x0, .sh (.int many), x2, x3, .ow true (.lst (acc.map nD)), .sh (.int j), .sh (num ua ub), .sh (num va vb), .sh (.int w), y9] := by
    have ha : args (P.lib (callF P (n + 1))) [.con (.int 1), .bin .add (.var 1) (.con (.int 1))] [x0, .sh (.int many), x2, x3, .ow true (.lst (acc.map nD)), .sh (.int j), .sh (num ua ub), .sh (num va vb), .sh (.int w), y9] = .ok [.val (.int 1), .val (.int ((many : Int) + 1))] [x0, .sh (.int many), x2, x3, .ow true (.lst (acc.map nD)), .sh (.int j), .sh (num ua ub), .sh (num va vb), .sh (.int w), y9] := by
      simp [args, eval, argOf, Arg.peek]
    rw [ha, Res.bind_ok]
    exact walkB_of (ds := [.int 1, .int ((many : Int) + 1)]) rfl it
  refine (Ok_foR hi3 (fun t env => ∃ y9, env = [x0, .sh (.int many), x2, x3, .ow true (.lst ((acc ++ G.take t).map nD)), .sh (.int j), .sh (num ua ub), .sh (num va vb), .sh (.int w), y9]) ⟨y9, by simp⟩ (fun t ht env ⟨y9, he⟩ => ?_)).mono fun fl e ⟨h1, y9, he⟩ => ⟨h1, y9, ?_⟩
  · subst he
    have m4 : mulOk (ua * vb) ((many : Int) + 1) := mulSz (j := 5) a1 (by omega)
    have m5 : mulOk w (1 + (t : Int)) := mulSz (j := 5) a4 (by omega)
    have m6 : mulOk (ub * vb) ((many : Int) + 1) := mulSz (j := 5) a3 (by omega)
    have pos : 0 < ub * vb * ((many : Int) + 1) := Int.mul_pos pos0 (by omega)
    have e := low_n n (ua * vb * ((many : Int) + 1) + w * (1 + t)) (ub * vb * ((many : Int) + 1)) pos (by
      have h1 : (ub * vb * ((many : Int) + 1)).natAbs < 2 ^ (990 + 990 + 5) := abs_mul (j := 990 + 990) (k := 5) a3 (by omega)
      exact Nat.lt_of_lt_of_le h1 (Nat.pow_le_pow_right (by decide) (by decide)))
    have tk := take_succ_map G (j := t) (by rw [hg]; exact ht)
    rw [tk, ig t ht]
    have hz2 : ((acc ++ G.take t).map nD).length < 100000 := by
      simp only [List.length_map, List.length_append, List.length_take]; omega
    have ap : (acc ++ (G.take t ++ [lowN (ua * vb * ((many : Int) + 1) + w * (1 + t)) (ub * vb * ((many : Int) + 1))])).map nD = (acc ++ G.take t).map nD ++ [nD (lowN (ua * vb * ((many : Int) + 1) + w * (1 + t)) (ub * vb * ((many : Int) + 1)))] := by simp
    rw [ap]
    generalize (acc ++ G.take t).map nD = A at *
    generalize nD (lowN (ua * vb * ((many : Int) + 1) + w * (1 + t)) (ub * vb * ((many : Int) + 1))) = r at *
    refine Ok_turn (by simp) (Ok.of (a := .nx) (e := [x0, .sh (.int many), x2, x3, .ow true (.lst (A ++ [r])), .sh (.int j), .sh (num ua ub), .sh (num va vb), .sh (.int w), .sh (.int (1 + t))]) ?_ ⟨.inl rfl, _, rfl⟩)
    simp [gapB, execs, exec, eval, args, argOf, Arg.peek, doCall, takes, gives, bL, f29, m2, m3, m4, m5, m6, e, hz2]
  · rw [he, List.take_of_length_le (by omega)]
theorem row_step (n many j K : Nat) (hm : many ≤ 6) (C : List D) (cs : List Nu) (hk : cs.length = K) (hK : K ≤ 50) (hj : j < K) (len : C.length = K) (ix : ∀ i, i < K → C[i]? = some (nD (nth cs i))) (nb : ∀ i, i < K → Nb 990 (nth cs i)) (x2 x3 y6 y7 y8 y9 : Sl) (acc : List Nu) (hL : acc.length ≤ 900) :
    Ok (execs (P.lib (callF P (n + 1))) rowB [.sh (.tup C), .sh (.int many), x2, x3, .ow true (.lst (acc.map nD)), .sh (.int j), y6, y7, y8, y9])
      fun fl e => fl = .nx ∧ ∃ y6 y7 y8 y9, e = [.sh (.tup C), .sh (.int many), x2, x3, .ow true (.lst ((acc ++ segN cs many j).map nD)), .sh (.int j), y6, y7, y8, y9] := by
  have ixj := ix j hj
  have nj := nb j hj
  unfold rowB
  refine Ok_cons (Ok.of (a := .nx) (e := [.sh (.tup C), .sh (.int many), x2, x3, .ow true (.lst ((acc ++ [nth cs j]).map nD)), .sh (.int j), y6, y7, y8, y9]) (by
    have hz1 : (acc.map nD).length < 100000 := by rw [List.length_map]; omega
    rw [List.map_append, List.map_cons, List.map_nil]
    generalize acc.map nD = A at *
    generalize nD (nth cs j) = v at *
    simp [exec, eval, argOf, Arg.peek, ixj, hz1]) ⟨rfl, ?_⟩)
  by_cases hlt : j + 1 < K
  · have hlt' : ((j : Int) + 1 < K) := by omega
    have sg : segN cs many j = nth cs j :: gapN (nth cs j) (nth cs (j + 1)) many := by rw [segN, if_pos (by omega)]
    rw [sg]
    have ixj1 := ix (j + 1) hlt
    have nj1 := nb (j + 1) hlt
    generalize nth cs j = u at *
    generalize nth cs (j + 1) = v at *
    obtain ⟨ua, ub⟩ := u
    obtain ⟨va, vb⟩ := v
    have g := row_gap n many j hm ua ub va vb nj nj1 (.sh (.tup C)) x2 x3 y9 (acc ++ [(ua, ub)]) (by simp; omega)
    rw [List.append_assoc, List.singleton_append] at g
    have m1 : mulOk va ub := mulSz nj1.sz.ta nj.sz.tb
    have m2 : mulOk ua vb := mulSz nj.sz.ta nj1.sz.tb
    have aj : L2.atI C ((j : Int) + 1) = some (num va vb) := by
      have : ((j : Int) + 1) = ((j + 1 : Nat) : Int) := by omega
      rw [this, atI_n]; exact ixj1
    unfold gapB at g
    generalize (acc ++ [(ua, ub)]).map nD = A at *
    generalize (acc ++ (ua, ub) :: gapN (ua, ub) (va, vb) many).map nD = A2 at *
    have ec : eval (P.lib (callF P (n + 1))) (.cmp .lt (.bin .add (.var 5) (.con (.int 1))) (.bi .len [.var 0])) [.sh (.tup C), .sh (.int many), x2, x3, .ow true (.lst A), .sh (.int j), y6, y7, y8, y9] = .ok (.bl true, false) [.sh (.tup C), .sh (.int many), x2, x3, .ow true (.lst A), .sh (.int j), y6, y7, y8, y9] := by
      simp [eval, args, argOf, Arg.peek, peeks, len, hlt']
    refine Ok_cons ?_
    rw [ite_of (by simp) ec]
    simp only [truth_bl, if_true]
    refine Ok_cons (Ok.of (a := .nx) (e := [.sh (.tup C), .sh (.int many), x2, x3, .ow true (.lst A), .sh (.int j), .sh (num ua ub), .sh (num va vb), y8, y9]) (by
      simp [exec, eval, argOf, Arg.peek, ixj, aj]) ⟨rfl, ?_⟩)
    refine Ok_cons (Ok.of (a := .nx) (e := [.sh (.tup C), .sh (.int many), x2, x3, .ow true (.lst A), .sh (.int j), .sh (num ua ub), .sh (num va vb), .sh (.int (va * ub - ua * vb)), y9]) (by
      simp [exec, eval, argOf, Arg.peek, m1, m2, Tg.store]) ⟨rfl, ?_⟩)
    exact Ok_cons (g.mono fun fl e ⟨h1, y9, he⟩ => ⟨h1, Ok_nil ⟨rfl, Ok_nil ⟨rfl, _, _, _, _, he⟩⟩⟩)
  · have hlt' : ¬ ((j : Int) + 1 < K) := by omega
    have sg : segN cs many j = [nth cs j] := by rw [segN, if_neg (by omega)]
    rw [sg]
    generalize (acc ++ [nth cs j]).map nD = A
    exact Ok_cons (Ok.of (a := .nx) (e := [.sh (.tup C), .sh (.int many), x2, x3, .ow true (.lst A), .sh (.int j), y6, y7, y8, y9]) (by simp [exec, execs, eval, args, argOf, Arg.peek, peeks, len, hlt']) ⟨rfl, Ok_nil ⟨rfl, _, _, _, _, rfl⟩⟩)
def headE : E := .lc (.call 29 [.bin .sub (.ix (.var 2) (.con (.int 0))) (.bin .mul (.bin .sub (.var 1) (.var 5)) (.ix (.var 2) (.con (.int 1)))), .ix (.var 2) (.con (.int 1))] [0, 1]) [5] (.name 5) .range [.var 1] []
def lastE : E := .lc (.call 29 [.bin .add (.ix (.var 3) (.con (.int 0))) (.bin .mul (.bin .add (.var 5) (.con (.int 1))) (.ix (.var 3) (.con (.int 1)))), .ix (.var 3) (.con (.int 1))] [0, 1]) [5] (.name 5) .range [.var 1] []
theorem row_head (n many : Nat) (hm : many ≤ 6) (fa fb : Int) (n0 : Nb 990 (fa, fb)) (x0 x3 x4 x5 x6 x7 x8 x9 : Sl) : eval (P.lib (callF P (n + 1))) headE [x0, .sh (.int many), .sh (num fa fb), x3, x4, x5, x6, x7, x8, x9] = .ok (.lst ((headN (fa, fb) many).map nD), true) [x0, .sh (.int many), .sh (num fa fb), x3, x4, x5, x6, x7, x8, x9] := by
  have bL : (P.lib (callF P (n + 1))).bor 29 = f29.bor := lib_bor g_l_low _
  have hi : (args (P.lib (callF P (n + 1))) [.var 1] [x0, .sh (.int many), .sh (num fa fb), x3, x4, x5, x6, x7, x8, x9]).bind (walkB .range) = .ok (rangeD 0 many) [x0, .sh (.int many), .sh (num fa fb), x3, x4, x5, x6, x7, x8, x9] := range_walkS (k := many) (i := 1) (by omega) (by simp [args, argOf]) rfl
  have lc1 := lc_mapR (L := P.lib (callF P (n + 1))) (elt := .call 29 [.bin .sub (.ix (.var 2) (.con (.int 0))) (.bin .mul (.bin .sub (.var 1) (.var 5)) (.ix (.var 2) (.con (.int 1)))), .ix (.var 2) (.con (.int 1))] [0, 1]) (own := [5]) (tg := .name 5) (fun (i : Nat) => nD (lowN (fa - ((many : Int) - i) * fb) fb)) hi (by omega) fun i hi => ⟨_, [x0, .sh (.int many), .sh (num fa fb), x3, x4, .sh (.int i), x6, x7, x8, x9], false, rfl, by
    have m1 : mulOk ((many : Int) - i) fb := mulSz (i := 5) (j := 990) (by omega) n0.sz.tb
    have e := low_n n (fa - ((many : Int) - i) * fb) fb n0.nz.pos (Nat.lt_of_lt_of_le n0.sz.tb (Nat.pow_le_pow_right (by decide) (by decide)))
    simp [wipeE, eval, args, argOf, Arg.peek, doCall, takes, gives, bL, f29, m1, e], rfl⟩
  have hh : (List.range many).map (fun (i : Nat) => nD (lowN (fa - ((many : Int) - i) * fb) fb)) = (headN (fa, fb) many).map nD := by rw [headN, List.map_map]; rfl
  rw [hh] at lc1
  unfold headE
  rw [lc1]
  simp [backE, wipeE]
theorem row_last (n many : Nat) (hm : many ≤ 6) (la lb : Int) (nl : Nb 990 (la, lb)) (x0 x2 x4 x5 x6 x7 x8 x9 : Sl) : eval (P.lib (callF P (n + 1))) lastE [x0, .sh (.int many), x2, .sh (num la lb), x4, x5, x6, x7, x8, x9] = .ok (.lst ((lastN (la, lb) many).map nD), true) [x0, .sh (.int many), x2, .sh (num la lb), x4, x5, x6, x7, x8, x9] := by
  have bL : (P.lib (callF P (n + 1))).bor 29 = f29.bor := lib_bor g_l_low _
  have hi5 : (args (P.lib (callF P (n + 1))) [.var 1] [x0, .sh (.int many), x2, .sh (num la lb), x4, x5, x6, x7, x8, x9]).bind (walkB .range) = .ok (rangeD 0 many) [x0, .sh (.int many), x2, .sh (num la lb), x4, x5, x6, x7, x8, x9] := range_walkS (k := many) (i := 1) (by omega) (by simp [args, argOf]) rfl
  have lc2 := lc_mapR (L := P.lib (callF P (n + 1))) (elt := .call 29 [.bin .add (.ix (.var 3) (.con (.int 0))) (.bin .mul (.bin .add (.var 5) (.con (.int 1))) (.ix (.var 3) (.con (.int 1)))), .ix (.var 3) (.con (.int 1))] [0, 1]) (own := [5]) (tg := .name 5) (fun (i : Nat) => nD (lowN (la + ((i : Int) + 1) * lb) lb)) hi5 (by omega) fun i hi => ⟨_, [x0, .sh (.int many), x2, .sh (num la lb), x4, .sh (.int i), x6, x7, x8, x9], false, rfl, by
    have m1 : mulOk ((i : Int) + 1) lb := mulSz (i := 5) (j := 990) (by omega) nl.sz.tb
    have e := low_n n (la + ((i : Int) + 1) * lb) lb nl.nz.pos (Nat.lt_of_lt_of_le nl.sz.tb (Nat.pow_le_pow_right (by decide) (by decide)))
    simp [wipeE, eval, args, argOf, Arg.peek, doCall, takes, gives, bL, f29, m1, e], rfl⟩
  have hh2 : (List.range many).map (fun (i : Nat) => nD (lowN (la + ((i : Int) + 1) * lb) lb)) = (lastN (la, lb) many).map nD := by rw [lastN, List.map_map]; rfl
  rw [hh2] at lc2
  unfold lastE
  rw [lc2]
  simp [backE, wipeE]
def rowZ : E := .lc (.tup [.var 5, .con (.int 1)]) [5] (.name 5) .range [.var 1] []
theorem row_zero (n many : Nat) (hm : many ≤ 6) (x0 x2 x3 x4 x5 x6 x7 x8 x9 : Sl) : eval (P.lib (callF P (n + 1))) rowZ [x0, .sh (.int many), x2, x3, x4, x5, x6, x7, x8, x9] = .ok (.lst (((List.range many).map fun (i : Nat) => ((i : Int), (1 : Int))).map nD), true) [x0, .sh (.int many), x2, x3, x4, x5, x6, x7, x8, x9] := by
  have hi : (args (P.lib (callF P (n + 1))) [.var 1] [x0, .sh (.int many), x2, x3, x4, x5, x6, x7, x8, x9]).bind (walkB .range) = .ok (rangeD 0 many) [x0, .sh (.int many), x2, x3, x4, x5, x6, x7, x8, x9] := range_walkS (k := many) (i := 1) (by omega) (by simp [args, argOf]) rfl
  have lc := lc_mapR (L := P.lib (callF P (n + 1))) (elt := .tup [.var 5, .con (.int 1)]) (own := [5]) (tg := .name 5) (fun (i : Nat) => nD ((i : Int), (1 : Int))) hi (by omega) fun i hi => ⟨_, [x0, .sh (.int many), x2, x3, x4, .sh (.int i), x6, x7, x8, x9], false, rfl, by simp [wipeE, eval, evals], rfl⟩
  unfold rowZ
  rw [lc, List.map_map]
  simp [backE, wipeE]
def rowS1 : S := .ite (.cmp .eq (.var 0) (.tup [])) [.ret rowZ] []
def rowS2 : S := .par [2, 3] [.ix (.var 0) (.con (.int 0)), .ix (.var 0) (.neg (.con (.int 1)))]
def rowS4 : S := .fo (.name 5) .range [.bi .len [.var 0]] rowB
def rowS5 : S := .ret (.bin .add (.var 4) lastE)
theorem row_body : b39 = [rowS1, rowS2, .asg (.name 4) headE, rowS4, rowS5] := rfl
theorem row_loop (n many K : Nat) (hm : many ≤ 6) (C : List D) (cs : List Nu) (hk : cs.length = K) (hz : K ≤ 50) (len : C.length = K) (ix : ∀ i, i < K → C[i]? = some (nD (nth cs i))) (nb : ∀ i, i < K → Nb 990 (nth cs i)) (HN : List Nu) (hhl : HN.length = many) (x2 x3 y5 y6 y7 y8 y9 : Sl) :
    Ok (exec (P.lib (callF P (n + 1))) rowS4 [.sh (.tup C), .sh (.int many), x2, x3, .ow true (.lst (HN.map nD)), y5, y6, y7, y8, y9])
      fun fl e => fl = .nx ∧ ∃ y5 y6 y7 y8 y9, e = [.sh (.tup C), .sh (.int many), x2, x3, .ow true (.lst ((HN ++ (List.range K).flatMap (segN cs many)).map nD)), y5, y6, y7, y8, y9] := by
  have hsl : ∀ j, ((List.range j).flatMap (segN cs many)).length ≤ 7 * j := fun j => by
    have := flat_len (f := segN cs many) (b := 7) (List.range j) fun i _ => by
      unfold segN
      split
      · simp [gapN]; omega
      · simp
    simpa using this
  have hi2 : (args (P.lib (callF P (n + 1))) [.bi .len [.var 0]] [.sh (.tup C), .sh (.int many), x2, x3, .ow true (.lst (HN.map nD)), y5, y6, y7, y8, y9]).bind (walkB .range) = .ok (rangeD 0 K) [.sh (.tup C), .sh (.int many), x2, x3, .ow true (.lst (HN.map nD)), y5, y6, y7, y8, y9] := range_walk (by omega) (by simp [args, eval, argOf, Arg.peek, peeks, len])
  refine Ok_foR (tg := .name 5) (b := rowB) hi2 (fun j env => ∃ y5 y6 y7 y8 y9, env = [.sh (.tup C), .sh (.int many), x2, x3, .ow true (.lst ((HN ++ (List.range j).flatMap (segN cs many)).map nD)), y5, y6, y7, y8, y9]) ⟨y5, y6, y7, y8, y9, by simp⟩ (fun j hj env ⟨y5, y6, y7, y8, y9, he⟩ => ?_)
  subst he
  rw [Int.zero_add]
  have hL : (HN ++ (List.range j).flatMap (segN cs many)).length ≤ 6 + 7 * j := by rw [List.length_append]; have := hsl j; omega
  have hsn : HN ++ (List.range (j + 1)).flatMap (segN cs many) = HN ++ (List.range j).flatMap (segN cs many) ++ segN cs many j := by
    rw [List.range_succ, List.flatMap_append]; simp
  rw [hsn]
  exact Ok_turn (by simp) ((row_step n many j K hm C cs hk hz hj len ix nb _ _ y6 y7 y8 y9 _ (by omega)).mono fun fl e ⟨h1, y6, y7, y8, y9, h2⟩ => ⟨.inl h1, _, _, _, _, _, h2⟩)
theorem c_l_row (n many : Nat) (cs : List Nu) (hm : many ≤ 6) (hz : cs.length ≤ 50) (hc : ∀ q ∈ cs, Nb 990 q) : callF P (n + 2) 39 [.sh (.tup (cs.map nD)), .sh (.int many)] = .ok (.lst ((rowN many cs).map nD)) true [.sh (.tup (cs.map nD)), .sh (.int many)] := by
  have q0 : cmpD .eq (.tup (cs.map nD)) (.tup []) = some (decide (cs = [])) := by
    rw [cmpD_eq (by rw [depth_tup]; have := nD_depths cs; omega) (by simp [D.depth, D.depths])]
    cases cs <;> simp [D.eqb, D.eqbs]
  rw [callF_of g_l_row rfl rfl]
  show outF 2 (execs (P.lib (callF P (n + 1))) b39 [.sh (.tup (cs.map nD)), .sh (.int many), .no, .no, .no, .no, .no, .no, .no, .no]) = _
  rw [row_body]
  by_cases h0 : cs = []
  · rw [decide_eq_true h0] at q0
    have hr : rowN many cs = (List.range many).map fun (i : Nat) => ((i : Int), (1 : Int)) := if_pos h0
    rw [hr]
    clear hr
    generalize cs.map nD = C at *
    unfold rowS1
    rw [ite_ret (fr := false) (by simp) (by simp [eval, evals, argOf, Arg.peek, q0]) (by simp [rowZ]) (row_zero n many hm _ _ _ _ _ _ _ _ _)]
    simp [outF]
  · rw [decide_eq_false h0] at q0
    have hpos := List.length_pos_iff.mpr h0
    have hr : rowN many cs = headN (nth cs 0) many ++ (List.range cs.length).flatMap (segN cs many) ++ lastN (nth cs (cs.length - 1)) many := if_neg h0
    rw [hr]
    clear hr
    have ix : ∀ i, i < cs.length → (cs.map nD)[i]? = some (nD (nth cs i)) := fun i hi => map_nth hi
    have ixl : L2.atI (cs.map nD) (-1) = some (nD (nth cs (cs.length - 1))) := by
      rw [atI_m1 (by simpa using h0), List.length_map]; exact map_nth (by omega)
    have len : (cs.map nD).length = cs.length := List.length_map _
    have nb : ∀ i, i < cs.length → Nb 990 (nth cs i) := fun i hi => hc _ (nth_mem hi)
    have nl := nb (cs.length - 1) (by omega)
    have n0 := nb 0 hpos
    have hsl : ((List.range cs.length).flatMap (segN cs many)).length ≤ 7 * cs.length := by
      have := flat_len (f := segN cs many) (b := 7) (List.range cs.length) fun i _ => by
        unfold segN
        split
        · simp [gapN]; omega
        · simp
      simpa using this
    have ix0 := ix 0 hpos
    have lp := fun HN hhl x2 x3 => row_loop n many cs.length hm (cs.map nD) cs rfl hz len ix nb HN hhl x2 x3 .no .no .no .no .no
    generalize cs.map nD = C at *
    generalize hk : cs.length = K at *
    generalize hf : nth cs 0 = f0 at *
    generalize hl : nth cs (K - 1) = l0 at *
    obtain ⟨fa, fb⟩ := f0
    obtain ⟨la, lb⟩ := l0
    rw [rowS1, ite_no (fr := false) (env' := [.sh (.tup C), .sh (.int many), .no, .no, .no, .no, .no, .no, .no, .no]) (by simp) (by simp [eval, evals, argOf, Arg.peek, q0])]
    rw [ss_nx (env' := [.sh (.tup C), .sh (.int many), .sh (num fa fb), .sh (num la lb), .no, .no, .no, .no, .no, .no]) (by simp [rowS2, exec, eval, argOf, Arg.peek, ix0, ixl])]
    have lc1 := row_head n many hm fa fb n0 (.sh (.tup C)) (.sh (num la lb)) .no .no .no .no .no .no
    rw [ss_nx (env' := [.sh (.tup C), .sh (.int many), .sh (num fa fb), .sh (num la lb), .ow true (.lst ((headN (fa, fb) many).map nD)), .no, .no, .no, .no, .no]) (by simp [exec, lc1, Tg.store])]
    have hhl : (headN (fa, fb) many).length = many := by simp [headN]
    obtain ⟨fl, e, hx, rfl, y5, y6, y7, y8, y9, rfl⟩ := (lp _ hhl _ _).ex
    rw [ss_nx hx]
    have hL2 : (headN (fa, fb) many ++ (List.range K).flatMap (segN cs many)).length ≤ 6 + 7 * K := by rw [List.length_append]; omega
    have hll : (lastN (la, lb) many).length = many := by simp [lastN]
    generalize headN (fa, fb) many ++ (List.range K).flatMap (segN cs many) = acc at *
    rw [show (acc ++ lastN (la, lb) many).map nD = acc.map nD ++ (lastN (la, lb) many).map nD from List.map_append]
    have lc2 := row_last n many hm la lb nl (.sh (.tup C)) (.sh (num fa fb)) (.ow true (.lst (acc.map nD))) y5 y6 y7 y8 y9
    have hz3 : (acc.map nD).length + ((lastN (la, lb) many).map nD).length ≤ 100000 := by rw [List.length_map, List.length_map]; omega
    generalize (lastN (la, lb) many).map nD = LN at *
    generalize acc.map nD = A at *
    have b1 : eval (P.lib (callF P (n + 1))) (.bin .add (.var 4) lastE) [.sh (.tup C), .sh (.int many), .sh (num fa fb), .sh (num la lb), .ow true (.lst A), y5, y6, y7, y8, y9] = .ok (.lst (A ++ LN), true) [.sh (.tup C), .sh (.int many), .sh (num fa fb), .sh (num la lb), .ow true (.lst A), y5, y6, y7, y8, y9] :=
      bin_slot (.inr ⟨true, .lst A, rfl⟩) (by simp [lastE]) lc2 rfl (opD_lst hz3)
    rw [rowS5, ss_rt (ret_of (by simp) b1)]
    simp [outF]
end Vk21


set_option Elab.async false
set_option linter.all false
set_option maxRecDepth 100000
set_option maxHeartbeats 4000000
namespace Vk21
open Pi Lk21
def numsB : List S := [.asg (.name 1) (.bin .add (.var 1) (.bi .list [.call 37 [.var 2] [0]]))]
theorem ins_be (w : PySem.Str) : cmpD .isin (.str w) (.tup [.str "both", .str "either"]) = some (decide (w ∈ [("both" : PySem.Str), "either"])) := cmpD_ins (ys := ["both", "either"])
theorem ins_ls (w : PySem.Str) : cmpD .isin (.str w) (.tup [.str "less", .str "same"]) = some (decide (w ∈ [("less" : PySem.Str), "same"])) := cmpD_ins (ys := ["less", "same"])
theorem ins_nsa (w : PySem.Str) : cmpD .isin (.str w) (.tup [.str "not", .str "some", .str "all"]) = some (decide (w ∈ [("not" : PySem.Str), "some", "all"])) := cmpD_ins (ys := ["not", "some", "all"])
theorem l_nums_filter (L : Lib) {pool : List Nu} {m : Int} (xs : List D) (x0 x1 : Sl) (h : ∀ x ∈ xs, Tq pool m x) (hz : xs.length ≤ 100000) : lcLoop (fun x e => match (Tg.name 2).store x false e with
            | none => .bad
            | some e1 => (holds L [.isin (.var 2) [.tuple]] e1).bind fun b e2 => if b then (eval L (.var 2) e2).bind fun r e3 => .ok (some r.1) (wipeE e3 [2]) else .ok none (wipeE e2 [2])) xs [x0, x1, .no] [] = .ok ((xs.flatMap numOf).map nD) [x0, x1, .no] := by
  have e : (xs.flatMap numOf).map nD = xs.filterMap fun x => if tyD x .tuple then some x else none := by
    clear hz
    induction xs with
    | nil => rfl
    | cons x xs ih =>
      have ih := ih fun y hy => h y (List.mem_cons_of_mem _ hy)
      rw [List.flatMap_cons, List.map_append, List.filterMap_cons, ih]
      rcases (h x List.mem_cons_self).is with ⟨i, rfl, _⟩ | ⟨p, _, rfl⟩ <;> simp [numOf, tyD]
  rw [e]
  have := lcLoop_fm (f := fun x e => match (Tg.name 2).store x false e with
            | none => .bad
            | some e1 => (holds L [.isin (.var 2) [.tuple]] e1).bind fun b e2 => if b then (eval L (.var 2) e2).bind fun r e3 => .ok (some r.1) (wipeE e3 [2]) else .ok none (wipeE e2 [2])) (env := [x0, x1, .no]) (h := fun x => if tyD x .tuple then some x else none) (xs := xs) (acc := []) (fun x hx => ?_) (by simpa using hz)
  · simpa using this
  · cases ht : tyD x .tuple <;> simp [Tg.store, holds, eval, argOf, Arg.peek, ht, wipeE]
section
variable {pool : List Nu} (hp : ∀ p ∈ pool, Nb 110 p) (hz : pool.length ≤ 50)
include hp hz
theorem c_l_numbers (n : Nat) : ∀ (k : Nat) {q : Nat} {m : Int} {d : D}, Fq pool q m d → d.depth ≤ k → callF P (n + k + 3) 37 [.sh d] = .ok (.tup ((srt (numsF (k + 1) d)).map nD)) false [.sh d] := by
  intro k
  have hnz : ∀ p ∈ pool, Nz p := fun p hp' => (hp p hp').nz
  -- the last row
  have last : ∀ (F : Nat) (xs : List D) (w : D) (m : Int), (∀ x ∈ xs, Tq pool m x) → xs.length ≤ 2 → execs (P.lib (callF P (F + 2))) [.ret (.bi .tuple [.call 31 [.lc (.var 2) [2] (.name 2) .seq [.cut (.var 0) (.con (.int 1)) (.con .non)] [.isin (.var 2) [.tuple]]] [0]])] [.sh (.tup (w :: xs)), .no, .no] = .ok (.rt (.tup ((srt (xs.flatMap numOf)).map nD)) false) [.sh (.tup (w :: xs)), .no, .no] := by
    intro F xs w m hx hl
    have c1 : cutL (w :: xs) (some (1 : Int)) none = xs := cutL_from (k := 1) (by simp)
    have hi2 : (args (P.lib (callF P (F + 2))) [.cut (.var 0) (.con (.int 1)) (.con .non)] [.sh (.tup (w :: xs)), .no, .no]).bind (walkB .seq) = .ok xs [.sh (.tup (w :: xs)), .no, .no] := walk_seq (fr := false) (by simp) (.inl (by simp [eval, argOf, Arg.peek, partOf, cutD, c1]))
    have lc2 := lc_of (L := P.lib (callF P (F + 2))) (elt := .var 2) (own := [2]) (tg := .name 2) (conds := [.isin (.var 2) [.tuple]]) hi2 (l_nums_filter _ xs _ _ hx (by omega))
    have sub : ∀ p ∈ xs.flatMap numOf, p ∈ pool := fun p hp' => by
      obtain ⟨x, h1, h2⟩ := List.mem_flatMap.mp hp'
      exact (hx x h1).nums p h2
    have hln : (xs.flatMap numOf).length ≤ 1 * xs.length := flat_len xs fun x h => by
      rcases (hx x h).is with ⟨i, rfl, _⟩ | ⟨p, _, rfl⟩ <;> simp [numOf]
    have e := c_l_sorted F (xs.flatMap numOf) (by omega) (fun p h => (hp p (sub p h)).le (by decide))
    have b1 := call_one (f := 31) (by simp) lc2
    generalize (srt (xs.flatMap numOf)).map nD = R at *
    generalize (xs.flatMap numOf).map nD = N at *
    have e4 : doCall (P.lib (callF P (F + 2))) 31 [.val (.lst N)] [0] (backE [.sh (.tup (w :: xs)), .no, .no] [.sh (.tup (w :: xs)), .no, .no] [2]) = .ok (.lst R, true) [.sh (.tup (w :: xs)), .no, .no] := by
      simp [doCall, takes, gives, lib_bor g_l_sorted, f31, e, backE]
    rw [e4] at b1
    have b2 := bi_one (f := .tuple) (by simp) b1
    exact ss_rt (ret_of (by simp) b2)
  induction k with
  | zero =>
    intro q m d h hd
    obtain ⟨xs, rfl⟩ : ∃ xs, d = .tup xs := by cases h <;> exact ⟨_, rfl⟩
    rw [depth_tup] at hd
    omega
  | succ k ih =>
    intro q m d h hd
    have sub := numsF_pool h (k + 1 + 1)
    rw [show n + (k + 1) + 3 = n + k + 3 + 1 by omega, callF_of g_l_numbers rfl rfl]
    show outF 1 (execs (P.lib (callF P (n + k + 3))) [.ite (.cmp .isin (.ix (.var 0) (.con (.int 0))) (.tup [.con (.str "both"), .con (.str "either")])) [.asg (.name 1) (.lst []), .fo (.name 2) .seq [.ix (.var 0) (.con (.int 1))] [.asg (.name 1) (.bin .add (.var 1) (.bi .list [.call 37 [.var 2] [0]]))], .ret (.bi .tuple [.call 31 [.var 1] [0]])] [], .ite (.cmp .isin (.ix (.var 0) (.con (.int 0))) (.tup [.con (.str "not"), .con (.str "some"), .con (.str "all")])) [.ret (.call 37 [.ix (.var 0) (.con (.int 1))] [0])] [], .ret (.bi .tuple [.call 31 [.lc (.var 2) [2] (.name 2) .seq [.cut (.var 0) (.con (.int 1)) (.con .non)] [.isin (.var 2) [.tuple]]] [0]])] [.sh d, .no, .no]) = _
    have bN : (P.lib (callF P (n + k + 3))).bor 37 = f37.bor := lib_bor g_l_numbers _
    have bS : (P.lib (callF P (n + k + 3))).bor 31 = f31.bor := lib_bor g_l_sorted _
    cases h with
    | yes =>
      rw [ite_no (fr := false) (env' := [.sh (.tup [.str "yes"]), .no, .no]) (by simp) (by simp [eval, evals, argOf, Arg.peek, ins_be]), ite_no (fr := false) (env' := [.sh (.tup [.str "yes"]), .no, .no]) (by simp) (by simp [eval, evals, argOf, Arg.peek, ins_nsa])]
      rw [last (n + k + 1) [] _ m (by simp) (by simp)]
      rfl
    | cmp _ _ w a b hw ha hb =>
      rw [ite_no (fr := false) (env' := [.sh (.tup [.str w, a, b]), .no, .no]) (by simp) (by rcases hw with rfl | rfl <;> simp [eval, evals, argOf, Arg.peek, ins_be]), ite_no (fr := false) (env' := [.sh (.tup [.str w, a, b]), .no, .no]) (by simp) (by rcases hw with rfl | rfl <;> simp [eval, evals, argOf, Arg.peek, ins_nsa])]
      rw [last (n + k + 1) [a, b] _ m (by simp [ha, hb]) (by simp)]
      have e3 : numsF (k + 1 + 1) (.tup [.str w, a, b]) = [a, b].flatMap numOf := by simp [numsF]
      rw [e3]
      rfl
    | not _ _ x h =>
      rw [depth_tup, depths_cons, depths_cons] at hd
      have e := ih h (by omega)
      have e3 : numsF (k + 1 + 1) (.tup [.str "not", x]) = numsF (k + 1) x := by simp [numsF]
      rw [e3]
      rw [ite_no (fr := false) (env' := [.sh (.tup [.str "not", x]), .no, .no]) (by simp) (by simp [eval, evals, argOf, Arg.peek, ins_be]), ite_ret (fr := false) (by simp) (by simp [eval, evals, argOf, Arg.peek, ins_nsa]) (by simp) (by simp [eval, args, argOf, Arg.peek, doCall, takes, gives, bN, f37, e]; exact ⟨⟨rfl, rfl⟩, rfl⟩)]
      rfl
    | qu _ _ w x hw h =>
      rw [depth_tup, depths_cons, depths_cons] at hd
      have e := ih h (by omega)
      have e3 : numsF (k + 1 + 1) (.tup [.str w, x]) = numsF (k + 1) x := by rcases hw with rfl | rfl <;> simp [numsF]
      rw [e3]
      rw [ite_no (fr := false) (env' := [.sh (.tup [.str w, x]), .no, .no]) (by simp) (by rcases hw with rfl | rfl <;> simp [eval, evals, argOf, Arg.peek, ins_be]), ite_ret (fr := false) (by simp) (by rcases hw with rfl | rfl <;> simp [eval, evals, argOf, Arg.peek, ins_nsa]) (by simp) (by simp [eval, args, argOf, Arg.peek, doCall, takes, gives, bN, f37, e]; exact ⟨⟨rfl, rfl⟩, rfl⟩)]
      rfl
    | lst _ _ w ys hw h0 hzy h =>
      rw [depth_tup, depths_cons, depths_cons, depth_tup] at hd
      have e1 : ∀ y ∈ ys, callF P (n + k + 3) 37 [.sh y] = .ok (.tup ((srt (numsF (k + 1) y)).map nD)) false [.sh y] := fun y hy => ih (h y hy) (by have := depths_mem hy; omega)
      have nm : ∀ y ∈ ys, ∀ p ∈ numsF (k + 1) y, p ∈ pool := fun y hy => numsF_pool (h y hy) _
      have ln : ∀ j, ((ys.take j).flatMap fun y => srt (numsF (k + 1) y)).length ≤ 1000 := fun j => by
        have h1 := flat_len (f := fun y => srt (numsF (k + 1) y)) (b := 50) (ys.take j) fun y hy => Nat.le_trans (srt_pool hnz (nm y (List.mem_of_mem_take hy))) hz
        have h2 : (ys.take j).length ≤ 20 := by rw [List.length_take]; omega
        omega
      have hi : (args (P.lib (callF P (n + k + 3))) [.ix (.var 0) (.con (.int 1))] [.sh (.tup [.str w, .tup ys]), .ow true (.lst []), .no]).bind (walkB .seq) = .ok (ys.map id) [.sh (.tup [.str w, .tup ys]), .ow true (.lst []), .no] := by
        rw [List.map_id]
        exact walk_seq (fr := false) (by simp) (.inl (by simp [eval, argOf, Arg.peek]))
      have lp := Ok_foM (L := P.lib (callF P (n + k + 3))) (tg := .name 2) (b := numsB) id hi (fun j env => ∃ y2, env = [.sh (.tup [.str w, .tup ys]), .ow true (.lst (((ys.take j).flatMap fun y => srt (numsF (k + 1) y)).map nD)), y2]) ⟨.no, by simp⟩ (fun j hj env ⟨y2, he⟩ => by
        subst he
        have e := e1 _ (List.getElem_mem hj)
        have tf := take_flat (fun y => srt (numsF (k + 1) y)) ys hj
        have l1 := ln j
        have l2 := srt_pool hnz (nm _ (List.getElem_mem hj))
        have hz1 : (((ys.take j).flatMap fun y => srt (numsF (k + 1) y)).map nD).length + ((srt (numsF (k + 1) ys[j])).map nD).length ≤ 100000 := by rw [List.length_map, List.length_map]; omega
        rw [tf, List.map_append]
        show Ok (turnOf (P.lib (callF P (n + k + 3))) (.name 2) numsB ys[j] _) _
        generalize ((ys.take j).flatMap fun y => srt (numsF (k + 1) y)).map nD = A at *
        generalize (srt (numsF (k + 1) ys[j])).map nD = B at *
        generalize ys[j] = y at *
        exact Ok_turn (by simp) (Ok.of (a := .nx) (e := [.sh (.tup [.str w, .tup ys]), .ow true (.lst (A ++ B)), .sh y]) (by
          simp [numsB, execs, exec, eval, args, argOf, Arg.peek, peeks, doCall, takes, gives, bN, f37, e, hz1, Tg.store]) ⟨.inl rfl, _, rfl⟩))
      obtain ⟨fl, e, hx, rfl, y2, rfl⟩ := lp.ex
      rw [List.take_length] at hx
      have lnA := ln ys.length
      rw [List.take_length] at lnA
      have so := c_l_sortedA (n + k + 1) (ys.flatMap fun y => srt (numsF (k + 1) y)) _ (.inr rfl) lnA fun p hp' => by
        obtain ⟨y, h1, h2⟩ := List.mem_flatMap.mp hp'
        exact (hp p (nm y h1 p (srt_mem.mp h2))).le (by decide)
      rw [srt_flat fun y hy p hp' => hnz p (nm y hy p hp')] at so
      have e3 : numsF (k + 1 + 1) (.tup [.str w, .tup ys]) = ys.flatMap (numsF (k + 1)) := by rcases hw with rfl | rfl <;> simp [numsF]
      rw [e3]
      rw [ite_go (fr := false) (by simp) (by rcases hw with rfl | rfl <;> simp [eval, evals, argOf, Arg.peek, ins_be]), ss_nx (env' := [.sh (.tup [.str w, .tup ys]), .ow true (.lst []), .no]) (by simp [exec, eval, evals, Tg.store])]
      unfold numsB at hx
      rw [ss_nx hx]
      generalize (srt (ys.flatMap (numsF (k + 1)))).map nD = R at *
      generalize (ys.flatMap fun y => srt (numsF (k + 1) y)).map nD = A at *
      simp [execs, exec, eval, args, argOf, Arg.peek, peeks, doCall, takes, gives, bS, f31, so, outF]
end
end Vk21


set_option Elab.async false
set_option linter.all false
set_option maxRecDepth 100000
set_option maxHeartbeats 4000000
namespace Vk21
open Pi Lk21
def lt1 : S := .ite (.cmp .eq (.var 3) (.con (.str "yes"))) [.ret (.con (.bl true))] []
def lt2a : S := .asg (.tup [4, 5]) (.lc (.ite (.isin (.var 8) [.tuple]) (.var 8) (.ix (.var 2) (.var 8))) [8] (.name 8) .seq [.cut (.var 1) (.con (.int 1)) (.con .non)] [])
def lt2S : S := .ite (.cmp .isin (.var 3) (.tup [.con (.str "less"), .con (.str "same")])) [lt2a, .ret (.ite (.cmp .eq (.var 3) (.con (.str "same"))) (.cmp .eq (.var 4) (.var 5)) (.call 30 [.var 4, .var 5] [0, 1]))] []
def lt3 : S := .ite (.cmp .eq (.var 3) (.con (.str "not"))) [.ret (.not (.call 38 [.var 0, .ix (.var 1) (.con (.int 1)), .var 2] [0, 1, 2]))] []
def lt4a : S := .asg (.name 6) (.lc (.call 38 [.var 0, .var 4, .var 2] [0, 1, 2]) [4] (.name 4) .seq [.ix (.var 1) (.con (.int 1))] [])
def lt4b : S := .ret (.ite (.cmp .eq (.var 3) (.con (.str "both"))) (.not (.cmp .isin (.con (.bl false)) (.var 6))) (.cmp .isin (.con (.bl true)) (.var 6)))
def lt4 : S := .ite (.cmp .isin (.var 3) (.tup [.con (.str "both"), .con (.str "either")])) [lt4a, lt4b] []
def lt5 : S := .asg (.name 7) (.call 39 [.bi .tuple [.call 31 [.bin .add (.bi .list [.var 0]) (.bi .list [.var 2])] [0]], .con (.int 1)] [0, 1])
def lt6 : S := .asg (.name 6) (.lc (.call 38 [.var 0, .ix (.var 1) (.con (.int 1)), .bin .add (.var 2) (.tup [.var 9])] [0, 1, 2]) [9] (.name 9) .seq [.var 7] [])
def lt7 : S := .ret (.ite (.cmp .eq (.var 3) (.con (.str "some"))) (.cmp .isin (.con (.bl true)) (.var 6)) (.not (.cmp .isin (.con (.bl false)) (.var 6))))
theorem lt_body : b38 = [.asg (.name 3) (.ix (.var 1) (.con (.int 0))), lt1, lt2S, lt3, lt4, lt5, lt6, lt7] := rfl
section
variable {cs pool : List Nu} (hc : ∀ p ∈ cs, Nb 110 p) (hp : ∀ p ∈ pool, Nb 110 p)
include hc hp
theorem c_l_true (n : Nat) {q : Nat} {m : Int} {d : D} (h : Fq pool q m d) : ∀ (k : Nat), d.depth ≤ k → q ≤ 2 → (q = 0 ∨ cs.length ≤ 3) → ∀ pl : List Nu, (pl.length : Int) = m → pl.length + q ≤ 6 → (∀ p ∈ pl, Nb (kz q) p) →
    callF P (n + k + 6) 38 [.sh (.tup (cs.map nD)), .sh d, .sh (.tup (pl.map nD))] = .ok (.bl (trueF cs (k + 1) d pl)) false [.sh (.tup (cs.map nD)), .sh d, .sh (.tup (pl.map nD))] := by
  induction h with
  | yes q m =>
    intro k hd hq2 hcq pl hm hl hb
    rw [callF_of g_l_true rfl rfl]
    generalize cs.map nD = C
    generalize pl.map nD = Y
    simp [f38, lt_body, lt1, execs, exec, eval, argOf, Arg.peek, outF, Tg.store, cmpD_eqs, trueF_yes]
  | cmp q m w a b hw ha hb =>
    intro k hd hq2 hcq pl hm hl hbb
    have kz1 : 110 ≤ kz q ∧ kz q ≤ 930 := by
      unfold kz; split <;> decide
    have n1 := (wth_nb ha hm kz1.1 hp hbb).le (show kz q ≤ 2000 by omega)
    have n2 := (wth_nb hb hm kz1.1 hp hbb).le (show kz q ≤ 2000 by omega)
    have e3 : callF P (n + k + 5) 30 [.sh (nD (wth pl a)), .sh (nD (wth pl b))] = .ok (.bl (lt2 (wth pl a) (wth pl b))) false [.sh (nD (wth pl a)), .sh (nD (wth pl b))] :=
      c_l_ahead (n + k + 4) _ _ _ _ (mulSz n1.sz.ta n2.sz.tb) (mulSz n2.sz.ta n1.sz.tb)
    have bA : (P.lib (callF P (n + k + 5))).bor 30 = f30.bor := lib_bor g_l_ahead _
    have e4 : cmpD .eq (nD (wth pl a)) (nD (wth pl b)) = some (decide (wth pl a = wth pl b)) := by
      rw [cmpD_eq (by rw [nD_depth]; decide) (by rw [nD_depth]; decide), nD_eqb]
    have wr : ∀ t, Tq pool m t → ∀ x0 x1 x3 x4 x5 x6 x7 x9, eval (P.lib (callF P (n + k + 5))) (.ite (.isin (.var 8) [.tuple]) (.var 8) (.ix (.var 2) (.var 8))) [x0, x1, .sh (.tup (pl.map nD)), x3, x4, x5, x6, x7, .sh t, x9] = .ok (nD (wth pl t), false) [x0, x1, .sh (.tup (pl.map nD)), x3, x4, x5, x6, x7, .sh t, x9] := by
      intro t ht x0 x1 x3 x4 x5 x6 x7 x9
      rcases ht.is with ⟨i, rfl, hi⟩ | ⟨p, hp, rfl⟩
      · have e := nth_app (pl := pl) (i := i) (by omega)
        have ew : wth pl (.int (i : Nat)) = nth pl i := by show nth pl ((i : Int).toNat) = _; rw [Int.toNat_natCast]
        rw [ew]
        generalize pl.map nD = xs at *
        generalize nth pl i = w at *
        simp [eval, argOf, Arg.peek, tyD, e]
      · have ew : wth pl (nD p) = p := rfl
        rw [ew]
        simp [eval, argOf, Arg.peek, tyD]
    have wa := wr a ha
    have wb := wr b hb
    have tl := trueF_less (cs := cs) (pl := pl) (k := k) (a := a) (b := b)
    have ts := trueF_same (cs := cs) (pl := pl) (k := k) (a := a) (b := b)
    rw [callF_of g_l_true rfl rfl]
    generalize cs.map nD = C at *
    generalize pl.map nD = Y at *
    generalize hu : wth pl a = u at *
    generalize hv : wth pl b = v at *
    generalize hU : nD u = U at *
    generalize hV : nD v = V at *
    have c1 : ∀ w, cutL [D.str w, a, b] (some (1 : Int)) none = [a, b] := fun w => cutL_from (k := 1) (by simp)
    rw [show f38.body = b38 from rfl, lt_body]
    rcases hw with rfl | rfl
    · have hi : (args (P.lib (callF P (n + k + 5))) [.cut (.var 1) (.con (.int 1)) (.con .non)] [.sh (.tup C), .sh (.tup [.str "less", a, b]), .sh (.tup Y), .sh (.str "less"), .no, .no, .no, .no, .no, .no]).bind (walkB .seq) = .ok [a, b] [.sh (.tup C), .sh (.tup [.str "less", a, b]), .sh (.tup Y), .sh (.str "less"), .no, .no, .no, .no, .no, .no] := walk_seq (fr := false) (by simp) (.inl (by simp [eval, argOf, Arg.peek, partOf, cutD, c1]))
      have lc : eval (P.lib (callF P (n + k + 5))) (.lc (.ite (.isin (.var 8) [.tuple]) (.var 8) (.ix (.var 2) (.var 8))) [8] (.name 8) .seq [.cut (.var 1) (.con (.int 1)) (.con .non)] []) [.sh (.tup C), .sh (.tup [.str "less", a, b]), .sh (.tup Y), .sh (.str "less"), .no, .no, .no, .no, .no, .no] = .ok (.lst [U, V], true) [.sh (.tup C), .sh (.tup [.str "less", a, b]), .sh (.tup Y), .sh (.str "less"), .no, .no, .no, .no, .no, .no] := by
        rw [eval, hi, Res.bind_ok]
        simp [lcLoop, Tg.store, holds, wipeE, wa, wb, backE]
      have aa : exec (P.lib (callF P (n + k + 5))) lt2a [.sh (.tup C), .sh (.tup [.str "less", a, b]), .sh (.tup Y), .sh (.str "less"), .no, .no, .no, .no, .no, .no] = .ok .nx [.sh (.tup C), .sh (.tup [.str "less", a, b]), .sh (.tup Y), .sh (.str "less"), .sh U, .sh V, .no, .no, .no, .no] := by
        rw [lt2a, exec, lc]
        simp [Tg.store, storeT]
      rw [tl]
      simp only [lt1, lt2S]
      simp [f38, execs, exec, eval, evals, args, argOf, Arg.peek, outF, Tg.store, cmpD_eqs, ins_ls, aa, doCall, takes, gives, bA, f30, e3, e4]
    · have hi : (args (P.lib (callF P (n + k + 5))) [.cut (.var 1) (.con (.int 1)) (.con .non)] [.sh (.tup C), .sh (.tup [.str "same", a, b]), .sh (.tup Y), .sh (.str "same"), .no, .no, .no, .no, .no, .no]).bind (walkB .seq) = .ok [a, b] [.sh (.tup C), .sh (.tup [.str "same", a, b]), .sh (.tup Y), .sh (.str "same"), .no, .no, .no, .no, .no, .no] := walk_seq (fr := false) (by simp) (.inl (by simp [eval, argOf, Arg.peek, partOf, cutD, c1]))
      have lc : eval (P.lib (callF P (n + k + 5))) (.lc (.ite (.isin (.var 8) [.tuple]) (.var 8) (.ix (.var 2) (.var 8))) [8] (.name 8) .seq [.cut (.var 1) (.con (.int 1)) (.con .non)] []) [.sh (.tup C), .sh (.tup [.str "same", a, b]), .sh (.tup Y), .sh (.str "same"), .no, .no, .no, .no, .no, .no] = .ok (.lst [U, V], true) [.sh (.tup C), .sh (.tup [.str "same", a, b]), .sh (.tup Y), .sh (.str "same"), .no, .no, .no, .no, .no, .no] := by
        rw [eval, hi, Res.bind_ok]
        simp [lcLoop, Tg.store, holds, wipeE, wa, wb, backE]
      have aa : exec (P.lib (callF P (n + k + 5))) lt2a [.sh (.tup C), .sh (.tup [.str "same", a, b]), .sh (.tup Y), .sh (.str "same"), .no, .no, .no, .no, .no, .no] = .ok .nx [.sh (.tup C), .sh (.tup [.str "same", a, b]), .sh (.tup Y), .sh (.str "same"), .sh U, .sh V, .no, .no, .no, .no] := by
        rw [lt2a, exec, lc]
        simp [Tg.store, storeT]
      rw [ts]
      simp only [lt1, lt2S]
      simp [f38, execs, exec, eval, evals, args, argOf, Arg.peek, outF, Tg.store, cmpD_eqs, ins_ls, aa, doCall, takes, gives, bA, f30, e3, e4]
  | not q m x h ih =>
    intro k hd hq2 hcq pl hm hl hb
    rw [depth_tup, depths_cons, depths_cons] at hd
    obtain ⟨j, rfl⟩ : ∃ j, k = j + 1 := ⟨k - 1, by omega⟩
    have e := ih j (by omega) hq2 hcq pl hm hl hb
    rw [show n + (j + 1) + 6 = n + j + 6 + 1 by omega, callF_of g_l_true rfl rfl, trueF_not]
    have bF : (P.lib (callF P (n + j + 6))).bor 38 = f38.bor := lib_bor g_l_true _
    generalize cs.map nD = C at *
    generalize pl.map nD = Y at *
    simp [f38, lt_body, lt1, lt2S, lt3, execs, exec, eval, evals, args, argOf, Arg.peek, outF, Tg.store, cmpD_eqs, ins_ls, doCall, takes, gives, bF, e]
  | lst q m w ys hw h0 hz h ih =>
    intro k hd hq2 hcq pl hm hl hb
    rw [depth_tup, depths_cons, depths_cons, depth_tup] at hd
    obtain ⟨j, rfl⟩ : ∃ j, k = j + 1 := ⟨k - 1, by omega⟩
    have e : ∀ y ∈ ys, callF P (n + j + 6) 38 [.sh (.tup (cs.map nD)), .sh y, .sh (.tup (pl.map nD))] = .ok (.bl (trueF cs (j + 1) y pl)) false [.sh (.tup (cs.map nD)), .sh y, .sh (.tup (pl.map nD))] := fun y hy => ih y hy j (by have := depths_mem hy; omega) hq2 hcq pl hm hl hb
    rw [show n + (j + 1) + 6 = n + j + 6 + 1 by omega, callF_of g_l_true rfl rfl]
    have bF : (P.lib (callF P (n + j + 6))).bor 38 = f38.bor := lib_bor g_l_true _
    have tb := trueF_both (cs := cs) (pl := pl) (k := j + 1) (ys := ys)
    have te := trueF_either (cs := cs) (pl := pl) (k := j + 1) (ys := ys)
    have i1 := cmpD_isbl (fun y => trueF cs (j + 1) y pl) true ys
    have i2 := cmpD_isbl (fun y => trueF cs (j + 1) y pl) false ys
    have a2 := any_false (fun y => trueF cs (j + 1) y pl) ys
    rw [any_true, ← te] at i1
    rw [← tb] at a2
    generalize cs.map nD = C at *
    generalize pl.map nD = Y at *
    have hi : (args (P.lib (callF P (n + j + 6))) [.ix (.var 1) (.con (.int 1))] [.sh (.tup C), .sh (.tup [.str w, .tup ys]), .sh (.tup Y), .sh (.str w), .no, .no, .no, .no, .no, .no]).bind (walkB .seq) = .ok ys [.sh (.tup C), .sh (.tup [.str w, .tup ys]), .sh (.tup Y), .sh (.str w), .no, .no, .no, .no, .no, .no] := walk_seq (fr := false) (by simp) (.inl (by simp [eval, argOf, Arg.peek]))
    have lc := lc_map (elt := .call 38 [.var 0, .var 4, .var 2] [0, 1, 2]) (own := [4]) (tg := .name 4) (fun y => .bl (trueF cs (j + 1) y pl)) hi (by omega) fun y hy => ⟨_, [.sh (.tup C), .sh (.tup [.str w, .tup ys]), .sh (.tup Y), .sh (.str w), .sh y, .no, .no, .no, .no, .no], false, rfl, by
      have e := e y hy
      simp [wipeE, eval, args, argOf, Arg.peek, doCall, takes, gives, bF, f38, e], rfl⟩
    generalize ys.map (fun y => D.bl (trueF cs (j + 1) y pl)) = T at *
    have a4 : exec (P.lib (callF P (n + j + 6))) lt4a [.sh (.tup C), .sh (.tup [.str w, .tup ys]), .sh (.tup Y), .sh (.str w), .no, .no, .no, .no, .no, .no] = .ok .nx [.sh (.tup C), .sh (.tup [.str w, .tup ys]), .sh (.tup Y), .sh (.str w), .no, .no, .ow true (.lst T), .no, .no, .no] := by
      rw [lt4a, exec, lc]
      simp [backE, wipeE, Tg.store]
    rw [show f38.body = b38 from rfl, lt_body]
    rcases hw with rfl | rfl
    · rw [← a2]
      simp only [lt1, lt2S, lt3, lt4]
      simp [f38, lt4b, execs, exec, eval, evals, args, argOf, Arg.peek, outF, Tg.store, cmpD_eqs, ins_ls, ins_be, a4, i2]
    · simp only [lt1, lt2S, lt3, lt4]
      simp [f38, lt4b, execs, exec, eval, evals, args, argOf, Arg.peek, outF, Tg.store, cmpD_eqs, ins_ls, ins_be, a4, i1]
  | qu q m w x hw h ih =>
    intro k hd hq2 hcq pl hm hl hb
    rw [depth_tup, depths_cons, depths_cons] at hd
    obtain ⟨j, rfl⟩ : ∃ j, k = j + 1 := ⟨k - 1, by omega⟩
    have hcl : cs.length ≤ 3 := hcq.resolve_left (by omega)
    have kq : kz (q + 1) ≤ 460 ∧ 110 ≤ kz (q + 1) ∧ 2 * kz (q + 1) + 6 ≤ kz q ∧ kz (q + 1) ≤ kz q := by
      have : q = 0 ∨ q = 1 := by omega
      rcases this with rfl | rfl <;> simp [kz]
    have nbl : ∀ p ∈ cs ++ pl, Nb (kz (q + 1)) p := fun p hp' => (List.mem_append.mp hp').elim (fun h => (hc p h).le kq.2.1) fun h => hb p h
    have sl := srt_len (cs ++ pl)
    rw [List.length_append] at sl
    have so := c_l_sorted (n + j + 4) (cs ++ pl) (by rw [List.length_append]; omega) (fun p hp' => (nbl p hp').le (by omega))
    rw [List.map_append] at so
    have ro := c_l_row (n + j + 4) 1 (srt (cs ++ pl)) (by decide) (by omega) (fun p hp' => (srt_nb nbl p hp').le (by omega))
    rw [row_one] at ro
    have nc : ∀ p ∈ candN (srt (cs ++ pl)), Nb (kz q) p := fun p hp' => by
      rw [← row_one] at hp'
      exact (row_nb (many := 1) (by decide) (srt_nb nbl) p hp').le kq.2.2.1
    have lcand : (candN (srt (cs ++ pl))).length ≤ 400 := by
      rw [← row_one]
      exact row_len (by decide) (by omega)
    have e : ∀ p ∈ candN (srt (cs ++ pl)), callF P (n + j + 6) 38 [.sh (.tup (cs.map nD)), .sh x, .sh (.tup (pl.map nD ++ [nD p]))] = .ok (.bl (trueF cs (j + 1) x (pl ++ [p]))) false [.sh (.tup (cs.map nD)), .sh x, .sh (.tup (pl.map nD ++ [nD p]))] := fun p hp' => by
      have := ih j (by omega) (by omega) (.inr hcl) (pl ++ [p]) (by rw [List.length_append]; simp; omega) (by rw [List.length_append]; simp; omega) (fun r hr => by
        rcases List.mem_append.mp hr with h | h
        · exact (hb r h).le kq.2.2.2
        · rw [List.mem_singleton] at h; subst h; exact nc r hp')
      rw [List.map_append] at this
      exact this
    rw [show n + (j + 1) + 6 = n + j + 6 + 1 by omega, callF_of g_l_true rfl rfl]
    have bF : (P.lib (callF P (n + j + 6))).bor 38 = f38.bor := lib_bor g_l_true _
    have bS : (P.lib (callF P (n + j + 6))).bor 31 = f31.bor := lib_bor g_l_sorted _
    have bR : (P.lib (callF P (n + j + 6))).bor 39 = f39.bor := lib_bor g_l_row _
    have ts := trueF_some (cs := cs) (pl := pl) (k := j + 1) (x := x)
    have ta := trueF_all (cs := cs) (pl := pl) (k := j + 1) (x := x)
    generalize candN (srt (cs ++ pl)) = cnd at *
    have i1 := cmpD_isbl (fun p => trueF cs (j + 1) x (pl ++ [p])) true cnd
    have i2 := cmpD_isbl (fun p => trueF cs (j + 1) x (pl ++ [p])) false cnd
    have a2 := any_false (fun p => trueF cs (j + 1) x (pl ++ [p])) cnd
    rw [any_true, ← ts] at i1
    rw [← ta] at a2
    have hlp : (pl.map nD).length + 1 ≤ 100000 := by rw [List.length_map]; omega
    have hlc : (cs.map nD).length + (pl.map nD).length ≤ 100000 := by rw [List.length_map, List.length_map]; omega
    generalize (srt (cs ++ pl)).map nD = SR at *
    generalize cs.map nD = C at *
    generalize pl.map nD = Y at *
    have so : callF P (n + j + 6) 31 [.sh (.lst (C ++ Y))] = _ := so
    have ro : callF P (n + j + 6) 39 [.sh (.tup SR), .sh (.int 1)] = .ok (.lst (cnd.map nD)) true [.sh (.tup SR), .sh (.int 1)] := ro
    have a5 : exec (P.lib (callF P (n + j + 6))) lt5 [.sh (.tup C), .sh (.tup [.str w, x]), .sh (.tup Y), .sh (.str w), .no, .no, .no, .no, .no, .no] = .ok .nx [.sh (.tup C), .sh (.tup [.str w, x]), .sh (.tup Y), .sh (.str w), .no, .no, .no, .ow true (.lst (cnd.map nD)), .no, .no] := by
      generalize cnd.map nD = CN at *
      simp [lt5, exec, eval, args, argOf, Arg.peek, peeks, doCall, takes, gives, bS, f31, bR, f39, so, ro, hlc, Tg.store]
    have hi : (args (P.lib (callF P (n + j + 6))) [.var 7] [.sh (.tup C), .sh (.tup [.str w, x]), .sh (.tup Y), .sh (.str w), .no, .no, .no, .ow true (.lst (cnd.map nD)), .no, .no]).bind (walkB .seq) = .ok (cnd.map nD) [.sh (.tup C), .sh (.tup [.str w, x]), .sh (.tup Y), .sh (.str w), .no, .no, .no, .sh (.lst (cnd.map nD)), .no, .no] := rfl
    have lc := lc_mapN (elt := .call 38 [.var 0, .ix (.var 1) (.con (.int 1)), .bin .add (.var 2) (.tup [.var 9])] [0, 1, 2]) (own := [9]) (tg := .name 9) (fun p => .bl (trueF cs (j + 1) x (pl ++ [p]))) hi (by omega) fun p hp' => ⟨_, [.sh (.tup C), .sh (.tup [.str w, x]), .sh (.tup Y), .sh (.str w), .no, .no, .no, .sh (.lst (cnd.map nD)), .no, .sh (nD p)], false, rfl, by
      have e := e p hp'
      generalize nD p = p' at *
      generalize cnd.map nD = CN at *
      simp [wipeE, eval, evals, args, argOf, Arg.peek, doCall, takes, gives, bF, f38, hlp, e], rfl⟩
    have a6 : exec (P.lib (callF P (n + j + 6))) lt6 [.sh (.tup C), .sh (.tup [.str w, x]), .sh (.tup Y), .sh (.str w), .no, .no, .no, .ow true (.lst (cnd.map nD)), .no, .no] = .ok .nx [.sh (.tup C), .sh (.tup [.str w, x]), .sh (.tup Y), .sh (.str w), .no, .no, .ow true (.lst (cnd.map fun p => .bl (trueF cs (j + 1) x (pl ++ [p])))), .sh (.lst (cnd.map nD)), .no, .no] := by
      rw [lt6, exec, lc]
      generalize cnd.map nD = CN at *
      simp [backE, wipeE, Tg.store]
    generalize cnd.map (fun p => D.bl (trueF cs (j + 1) x (pl ++ [p]))) = T at *
    generalize cnd.map nD = CN at *
    rw [show f38.body = b38 from rfl, lt_body]
    rcases hw with rfl | rfl
    · simp only [lt1, lt2S, lt3, lt4]
      simp [f38, lt7, execs, exec, eval, evals, args, argOf, Arg.peek, outF, Tg.store, cmpD_eqs, ins_ls, ins_be, a5, a6, i1]
    · rw [← a2]
      simp only [lt1, lt2S, lt3, lt4]
      simp [f38, lt7, execs, exec, eval, evals, args, argOf, Arg.peek, outF, Tg.store, cmpD_eqs, ins_ls, ins_be, a5, a6, i2]
end
end Vk21


set_option Elab.async false
set_option linter.all false
set_option maxRecDepth 100000
set_option maxHeartbeats 4000000
namespace Vk21
open Pi Lk21
abbrev pD (pl : List Nu) : D := .tup (pl.map nD)
theorem row_len2 {many : Nat} {cs : List Nu} : (rowN many cs).length ≤ 2 * many + (many + 1) * cs.length := by
  unfold rowN
  split
  · simp; omega
  · have := flat_len (f := segN cs many) (b := many + 1) (List.range cs.length) fun i _ => by
      unfold segN
      split
      · simp [gapN]
      · simp
    simp only [List.length_range] at this
    simp only [List.length_append, headN, lastN, List.length_map, List.length_range]
    omega
def plcE : E := .lc (.bin .add (.var 5) (.tup [.var 6])) [6] (.name 6) .seq [.var 0] []
def plcB : List S := [.ext 4 plcE]
def plcT : List S := [.asg (.name 4) (.lst []), .fo (.name 5) .seq [.var 2] plcB, .asg (.name 2) (.var 4)]
theorem plc_body : b40 = [.asg (.name 2) (.lst [.tup []]), .fo (.name 3) .range [.var 1] plcT, .ret (.var 2)] := rfl
def longer (row : List Nu) (ps : List (List Nu)) : List (List Nu) := ps.flatMap fun pl => row.map fun r => pl ++ [r]
theorem longer_len (row : List Nu) : ∀ ps : List (List Nu), (longer row ps).length = ps.length * row.length
  | [] => by simp [longer]
  | p :: ps => by
    have := longer_len row ps
    unfold longer at *
    rw [List.flatMap_cons, List.length_append, this, List.length_map, List.length_cons, Nat.succ_mul]
    omega
theorem longer_take (row : List Nu) (ps : List (List Nu)) {j : Nat} (hj : j < ps.length) : longer row (ps.take (j + 1)) = longer row (ps.take j) ++ row.map fun r => ps[j] ++ [r] := by
  have e : ps.take (j + 1) = ps.take j ++ [ps[j]] := by rw [List.take_succ, List.getElem?_eq_getElem hj]; rfl
  unfold longer
  rw [e, List.flatMap_append]
  simp only [List.flatMap_cons, List.flatMap_nil, List.append_nil]
theorem plc_turn (L : Lib) (row : List Nu) (ps : List (List Nu)) (s2 x1 x3 x4 x5 x6 : Sl) (h2 : s2 = .sh (.lst (ps.map pD)) ∨ s2 = .ow true (.lst (ps.map pD))) (hr : row.length ≤ 20) (hp : ps.length ≤ 400) (hl : ∀ pl ∈ ps, pl.length ≤ 10) :
    Ok (execs L plcT [.sh (.lst (row.map nD)), x1, s2, x3, x4, x5, x6]) fun fl e => fl = .nx ∧ ∃ y4 y5 y6, e = [.sh (.lst (row.map nD)), x1, .sh (.lst ((longer row ps).map pD)), x3, y4, y5, y6] := by
  unfold plcT
  refine Ok_cons (Ok.of (a := .nx) (e := [.sh (.lst (row.map nD)), x1, s2, x3, .ow true (.lst []), x5, x6]) (by simp [exec, eval, evals, Tg.store]) ⟨rfl, ?_⟩)
  have hi : (args L [.var 2] [.sh (.lst (row.map nD)), x1, s2, x3, .ow true (.lst []), x5, x6]).bind (walkB .seq) = .ok (ps.map pD) [.sh (.lst (row.map nD)), x1, .sh (.lst (ps.map pD)), x3, .ow true (.lst []), x5, x6] := by
    rcases h2 with rfl | rfl <;> rfl
  refine Ok_cons ((Ok_foM (tg := .name 5) (b := plcB) pD hi (fun j env => ∃ y5 y6, env = [.sh (.lst (row.map nD)), x1, .sh (.lst (ps.map pD)), x3, .ow true (.lst ((longer row (ps.take j)).map pD)), y5, y6]) ⟨x5, x6, by simp [longer]⟩ (fun j hj env ⟨y5, y6, he⟩ => ?_)).mono fun fl e ⟨h1, y5, y6, he⟩ => ⟨h1, ?_⟩)
  · subst he
    have hpl := hl _ (List.getElem_mem hj)
    have lt := longer_take row ps hj
    have l1 := longer_len row (ps.take j)
    have l2 : (longer row (ps.take j)).length ≤ 8000 := by
      rw [l1]
      have : (ps.take j).length ≤ 400 := by rw [List.length_take]; omega
      exact Nat.mul_le_mul this hr
    rw [lt, List.map_append]
    generalize ps[j] = pl at *
    have hzp : (pl.map nD).length + 1 ≤ 100000 := by rw [List.length_map]; omega
    have m1 : (row.map fun r => pl ++ [r]).map pD = row.map fun r => D.tup (pl.map nD ++ [nD r]) := by
      rw [List.map_map]
      refine List.map_congr_left fun r _ => ?_
      simp [pD]
    have hz : ((longer row (ps.take j)).map pD).length + (row.map fun r => D.tup (pl.map nD ++ [nD r])).length ≤ 100000 := by rw [List.length_map, List.length_map]; omega
    rw [m1]
    generalize (longer row (ps.take j)).map pD = A at *
    have hi2 : (args L [.var 0] [.sh (.lst (row.map nD)), x1, .sh (.lst (ps.map pD)), x3, .ow true (.lst A), .sh (pD pl), y6]).bind (walkB .seq) = .ok (row.map nD) [.sh (.lst (row.map nD)), x1, .sh (.lst (ps.map pD)), x3, .ow true (.lst A), .sh (pD pl), y6] := rfl
    have lc := lc_mapN (elt := .bin .add (.var 5) (.tup [.var 6])) (own := [6]) (tg := .name 6) (fun r => .tup (pl.map nD ++ [nD r])) hi2 (by omega) fun r hr => ⟨_, [.sh (.lst (row.map nD)), x1, .sh (.lst (ps.map pD)), x3, .ow true (.lst A), .sh (pD pl), .sh (nD r)], false, rfl, by
      generalize row.map nD = R
      generalize ps.map pD = Q
      generalize nD r = r'
      simp only [pD]
      generalize pl.map nD = Y at *
      simp [wipeE, eval, evals, argOf, Arg.peek, hzp], rfl⟩
    generalize row.map (fun r => D.tup (pl.map nD ++ [nD r])) = B at *
    generalize row.map nD = R at *
    generalize ps.map pD = Q at *
    refine Ok_turn (by simp) (Ok.of (a := .nx) (e := [.sh (.lst R), x1, .sh (.lst Q), x3, .ow true (.lst (A ++ B)), .sh (pD pl), y6]) ?_ ⟨.inl rfl, _, _, rfl⟩)
    have lc : eval L plcE [.sh (.lst R), x1, .sh (.lst Q), x3, .ow true (.lst A), .sh (pD pl), y6] = .ok (.lst B, true) [.sh (.lst R), x1, .sh (.lst Q), x3, .ow true (.lst A), .sh (pD pl), y6] := lc
    generalize pD pl = p' at *
    simp [plcB, execs, exec, lc, hz]
  · subst he
    rw [List.take_length]
    generalize row.map nD = R
    generalize ps.map pD = Q
    generalize (longer row ps).map pD = A
    exact Ok_cons (Ok.of (a := .nx) (e := [.sh (.lst R), x1, .sh (.lst A), x3, .sh (.lst A), y5, y6]) (by simp [exec, eval, Tg.store]) ⟨rfl, Ok_nil ⟨rfl, _, _, _, rfl⟩⟩)
theorem c_l_places (n nm : Nat) (row : List Nu) (hr : row.length ≤ 20) (hn : nm ≤ 2) : ∃ (ps : List (List Nu)) (fr : Bool), (∀ pl ∈ ps, pl.length = nm ∧ ∀ p ∈ pl, p ∈ row) ∧ ps.length ≤ 400 ∧
    callF P (n + 1) 40 [.sh (.lst (row.map nD)), .sh (.int nm)] = .ok (.lst (ps.map pD)) fr [.sh (.lst (row.map nD)), .sh (.int nm)] := by
  have hi : (args (P.lib (callF P n)) [.var 1] [.sh (.lst (row.map nD)), .sh (.int nm), .ow true (.lst [.tup []]), .no, .no, .no, .no]).bind (walkB .range) = .ok (rangeD 0 nm) [.sh (.lst (row.map nD)), .sh (.int nm), .ow true (.lst [.tup []]), .no, .no, .no, .no] := range_walkS (k := nm) (i := 1) (by omega) (by simp [args, argOf]) rfl
  have lp := Ok_foR (tg := .name 3) (b := plcT) hi (fun j env => ∃ (ps : List (List Nu)) (s2 y3 y4 y5 y6 : Sl), env = [.sh (.lst (row.map nD)), .sh (.int nm), s2, y3, y4, y5, y6] ∧ (s2 = .sh (.lst (ps.map pD)) ∨ s2 = .ow true (.lst (ps.map pD))) ∧ (∀ pl ∈ ps, pl.length = j ∧ ∀ p ∈ pl, p ∈ row) ∧ ps.length ≤ 20 ^ j)
    ⟨[[]], _, _, _, _, _, rfl, .inr rfl, by simp, by simp⟩ (fun j hj env ⟨ps, s2, y3, y4, y5, y6, he, h2, h3, h4⟩ => by
      subst he
      have hpl : ps.length ≤ 400 := by
        have : 20 ^ j ≤ 20 ^ 1 := Nat.pow_le_pow_right (by decide) (by omega)
        omega
      refine Ok_turn (by simp) ((plc_turn _ row ps s2 (.sh (.int nm)) (.sh (.int (0 + j))) y4 y5 y6 h2 hr hpl fun pl h => by have := (h3 pl h).1; omega).mono fun fl e ⟨h1, y4, y5, y6, he⟩ => ⟨.inl h1, longer row ps, _, _, _, _, _, he, .inl rfl, fun pl hpl => ?_, ?_⟩)
      · unfold longer at hpl
        obtain ⟨pl0, h5, h6⟩ := List.mem_flatMap.mp hpl
        obtain ⟨r, h7, rfl⟩ := List.mem_map.mp h6
        refine ⟨by rw [List.length_append, (h3 pl0 h5).1]; rfl, fun p hp => ?_⟩
        rcases List.mem_append.mp hp with hp | hp
        · exact (h3 pl0 h5).2 p hp
        · rw [List.mem_singleton] at hp; subst hp; exact h7
      · rw [longer_len, Nat.pow_succ]
        exact Nat.mul_le_mul h4 hr)
  obtain ⟨fl, e, hx, rfl, ps, s2, y3, y4, y5, y6, rfl, h2, h3, h4⟩ := lp.ex
  have hpl : ps.length ≤ 400 := by
    have : 20 ^ nm ≤ 20 ^ 2 := Nat.pow_le_pow_right (by decide) hn
    omega
  have fin : ∃ fr, callF P (n + 1) 40 [.sh (.lst (row.map nD)), .sh (.int nm)] = .ok (.lst (ps.map pD)) fr [.sh (.lst (row.map nD)), .sh (.int nm)] := by
    rw [callF_of g_l_places rfl rfl]
    generalize row.map nD = R at *
    generalize ps.map pD = Q at *
    rw [show f40.body = b40 from rfl, plc_body]
    rcases h2 with rfl | rfl
    · refine ⟨false, ?_⟩
      show outF 2 (execs (P.lib (callF P n)) _ [.sh (.lst R), .sh (.int nm), .no, .no, .no, .no, .no]) = _
      rw [ss_nx (env' := [.sh (.lst R), .sh (.int nm), .ow true (.lst [.tup []]), .no, .no, .no, .no]) (by simp [exec, eval, evals, Tg.store]), ss_nx hx]
      simp [execs, exec, outF]
    · refine ⟨true, ?_⟩
      show outF 2 (execs (P.lib (callF P n)) _ [.sh (.lst R), .sh (.int nm), .no, .no, .no, .no, .no]) = _
      rw [ss_nx (env' := [.sh (.lst R), .sh (.int nm), .ow true (.lst [.tup []]), .no, .no, .no, .no]) (by simp [exec, eval, evals, Tg.store]), ss_nx hx]
      simp [execs, exec, outF]
  obtain ⟨fr, hfr⟩ := fin
  exact ⟨ps, fr, h3, hpl, hfr⟩
def told : Exc → D
  | ⟨1, _⟩ => .tup [.str "count", .non]
  | ⟨3, _⟩ => .tup [.str "formula", .non]
  | ⟨_, some (_, d)⟩ => .tup [.str "place", d]
  | _ => .non
theorem c_l_refused (n : Nat) (m f p : D) (x : Exc) (hx : x = ⟨1, none⟩ ∨ x = ⟨3, none⟩ ∨ ∃ d, x = ⟨2, some ("index", d)⟩) (e : callF P n 24 [.sh m, .sh f, .sh p] = .ex x) :
    callF P (n + 1) 41 [.sh m, .sh f, .sh p] = .ok (told x) false [.sh m, .sh f, .sh p] := by
  have bI : (P.lib (callF P n)).bor 24 = f24.bor := lib_bor g_is_true _
  rw [callF_of g_l_refused rfl rfl]
  have s1 : (P.lib (callF P n)).sub 1 1 = true := rfl
  have s2 : (P.lib (callF P n)).sub 3 1 = false := rfl
  have s3 : (P.lib (callF P n)).sub 3 3 = true := rfl
  have s4 : (P.lib (callF P n)).sub 2 1 = false := rfl
  have s5 : (P.lib (callF P n)).sub 2 3 = false := rfl
  have s6 : (P.lib (callF P n)).sub 2 2 = true := rfl
  rcases hx with rfl | rfl | ⟨d, rfl⟩
  · simp [f41, b41, execs, exec, eval, evals, args, argOf, Arg.peek, outF, Tg.store, doCall, takes, gives, bI, f24, e, catchX, execX, evalX, evalXs, s1, told, -lib_sub]
  · simp [f41, b41, execs, exec, eval, evals, args, argOf, Arg.peek, outF, Tg.store, doCall, takes, gives, bI, f24, e, catchX, execX, evalX, evalXs, s2, s3, told, -lib_sub]
  · simp [f41, b41, execs, exec, eval, evals, args, argOf, Arg.peek, outF, Tg.store, doCall, takes, gives, bI, f24, e, catchX, execX, evalX, evalXs, s4, s5, s6, told, -lib_sub]
end Vk21


set_option Elab.async false
set_option linter.all false
set_option maxRecDepth 100000
set_option maxHeartbeats 4000000
namespace Vk21
open Pi Lk21

def t3E : E := .call 40 [.call 39 [.var 6, .var 3] [0, 1], .var 3] [0, 1]
def plE : E := .lc (.call 32 [.var 2] [0]) [16] (.name 16) .range [.var 3] []
def plTE : E := .bi .tuple [plE]
def t1 : S := .asg (.name 5) (.call 35 [.var 2, .var 3, .call 33 [.var 2, .con (.int 2)] [0, 1], .con (.int 8), .con (.int 2)] [0, 1, 2, 3, 4])
def t2 : S := .asg (.name 6) (.call 37 [.var 5] [0])
def t3 : S := .asg (.name 7) (.cut t3E (.con .non) (.con (.int 25)))
def t4b : S := .asg (.name 7) (.bin .add (.var 7) (.lst [plTE]))
def t5b : S := .ite (.not (.call 28 [.call 24 [.var 3, .var 5, .var 9] [0, 1, 2], .call 38 [.var 6, .var 5, .var 9] [0, 1, 2]] [0, 1])) [.ret (.con (.bl false))] []
def t6 : S := .asg (.name 9) (.ix (.var 7) (.neg (.con (.int 1))))
def t7 : S := .ite (.not (.call 28 [.call 24 [.var 9, .var 3, .tup [.con (.str "not"), .var 5]] [1, 2, 0], .not (.call 38 [.var 6, .var 5, .var 9] [0, 1, 2])] [0, 1])) [.ret (.con (.bl false))] []
def a1 : S := .asg (.name 2) (.call 25 [.var 0, .var 1] [0, 1])
def a2 : S := .asg (.name 3) (.call 26 [.var 2, .con (.int 3)] [0, 1])
def a4 : S := .asg (.tup [10, 11]) (.call 27 [.var 2, .lst [.tup [.con (.int 1), .con (.int 30)], .tup [.con (.int 2), .con (.int 20)], .tup [.con (.int 3), .con (.int 7)], .tup [.con (.int 4), .con (.int 2)], .tup [.con (.int 5), .con (.int 1)], .tup [.con (.int 6), .con (.int 0)]]] [0, 1])
def a5 : S := .asg (.name 6) (.call 33 [.var 2, .var 11] [0, 1])
def a6iE : E := .lc (.call 35 [.var 2, .var 10, .var 6, .con (.int 4), .con (.int 0)] [0, 1, 2, 3, 4]) [4] (.name 4) .range [.con (.int 2)] []
def a6oE : E := .lc (.tup [.con (.str "both"), .bi .tuple [a6iE]]) [17] (.name 17) .range [.con (.int 4)] []
def a6 : S := .asg (.name 12) (.tup [.con (.str "either"), .bi .tuple [a6oE]])
def a7lE : E := .lc (.call 27 [.var 2, .bin .add (.bi .list [.var 6]) (.bin .mul (.lst [.call 32 [.var 2] [0]]) (.con (.int 3)))] [0, 1]) [16] (.name 16) .range [.var 10] []
def a7f : S := .asg (.name 13) (.bi .tuple [a7lE])
def a7s : S := .ite (.not (.call 28 [.call 24 [.var 10, .var 12, .var 13] [0, 1, 2], .call 38 [.tup [], .var 12, .var 13] [0, 1, 2]] [0, 1])) [.ret (.con (.bl false))] []
def a8 : S := .asg (.name 14) (.call 27 [.var 2, .lst [.con (.non), .tup [.con (.str "less"), .var 3, .tup [.con (.int 0), .con (.int 1)]], .tup [.con (.str "yes"), .con (.int 0)], .tup [.con (.str "both"), .tup []], .lst [.con (.str "yes")], .tup [.con (.str "some"), .tup [.con (.str "same"), .bin .add (.var 3) (.con (.int 1)), .con (.int 0)]]]] [0, 1])
def a9 : S := .asg (.name 15) (.lst [.call 41 [.neg (.con (.int 1)), .var 14, .con (.non)] [0, 1, 2], .call 41 [.var 3, .var 14, .con (.non)] [0, 1, 2], .call 41 [.var 3, .var 5, .bi .list [.var 9]] [0, 1, 2]])
def a10 : S := .ite (.or (.cmp .ne (.var 15) (.lst [.tup [.con (.str "count"), .con (.non)], .tup [.con (.str "formula"), .con (.non)], .tup [.con (.str "place"), .neg (.con (.int 1))]])) (.cmp .ne (.call 41 [.var 3, .var 5, .bin .add (.var 9) (.tup [.tup [.con (.int 1), .con (.int 1)]])] [0, 1, 2]) (.tup [.con (.str "place"), .neg (.con (.int 1))]))) [.ret (.con (.bl false))] []
def a11 : S := .ite (.and (.cmp .gt (.var 3) (.con (.int 0))) (.cmp .ne (.call 41 [.var 3, .var 5, .bin .add (.tup [.tup [.con (.int 2), .con (.int 2)]]) (.cut (.var 9) (.con (.int 1)) (.con .non))] [0, 1, 2]) (.tup [.con (.str "place"), .con (.int 0)]))) [.ret (.con (.bl false))] []
def turnB : List S := [t1, t2, t3, .fo (.name 8) .range [.con (.int 4)] [t4b], .fo (.name 9) .seq [.var 7] [t5b], t6, t7]
def lawB : List S := [a1, a2, .fo (.name 4) .range [.con (.int 3)] turnB, a4, a5, a6, .fo (.name 4) .range [.con (.int 6)] [a7f, a7s], a8, a9, a10, a11]
theorem law_body : b42 = [.fo (.name 1) .range [.con (.int 3)] lawB, .ret (.con (.bl true))] := rfl
abbrev LN (n : Nat) : Lib := P.lib (callF P (n + 60))
theorem fuel {F F' j : Nat} {as : List Sl} {r : CRes} (h : callF P F j as = r) (e : F = F') : callF P F' j as = r := e ▸ h
theorem c_lib {F j : Nat} {as : List Sl} {r : CRes} (h : callF P F j as = r) : (P.lib (callF P F)).C j as = r := h
theorem b_sub {j : Nat} {fn : Fn} (n : Nat) (h : P.G[j]? = some fn) : (LN n).bor j = fn.bor := lib_bor h _
/-- a drawn formula, and a list of places at which it is asked -/
structure Good (nm : Nat) (f : D) (cs0 : List Nu) : Prop where
  fq : Fq ((0, 1) :: cs0) 2 nm f
  dep : f.depth ≤ 17
  nm2 : nm ≤ 2
  pool : ∀ p ∈ ((0, 1) : Nu) :: cs0, NmP p
  len : cs0.length ≤ 2
def numsOf (f : D) : List Nu := srt (numsF 20 f)
theorem Good.nums {nm : Nat} {f : D} {cs0 : List Nu} (g : Good nm f cs0) : (numsOf f).length ≤ 3 ∧ ∀ p ∈ numsOf f, Nb 110 p := by
  have sub := numsF_pool g.fq 20
  have := srt_pool (fun p h => (nm_nb (g.pool p h)).nz) sub
  have hl := g.len
  refine ⟨?_, fun p h => nm_nb (g.pool p (sub p (srt_mem.mp h)))⟩
  unfold numsOf
  rw [List.length_cons] at this
  omega
section
variable {n nm : Nat} {f p q : D} {m : Int} {cs0 : List Nu} {x0 x1 x2 x3 x4 x5 x6 x7 x8 x9 x10 x11 x12 x13 x14 x15 x16 x17 : Sl}
theorem s_t1 (hp : Pou m p) (hm : m ≤ 50000) (hn : nm ≤ 2) : ∃ f cs0 q, Good nm f cs0 ∧ Pou (m + 16407) q ∧ exec (LN n) t1 [x0, x1, .ow true p, .sh (.int nm), x4, x5, x6, x7, x8, x9, x10, x11, x12, x13, x14, x15, x16, x17] = .ok .nx [x0, x1, .ow true q, .sh (.int nm), x4, .sh f, x6, x7, x8, x9, x10, x11, x12, x13, x14, x15, x16, x17] := by
  obtain ⟨cs, p1, h1, h2, hp1, e1⟩ := c_l_constants (n + 56) p m 2 hp (by omega) (by decide) (by decide)
  have e1 := fuel (F' := n + 60) e1 (by omega)
  have dB8 : dB 8 = 16400 := by decide
  obtain ⟨f, q, hf, hfd, hq, e2⟩ := c_l_formula 8 (by decide) (n + 32) 8 (by decide) (by decide) nm 2 _ p1 (srt cs) hp1 (by rw [dB8]; omega) (by omega) (by omega) (by decide) (fun p hp => h2 p (srt_mem.mp hp)) (by have := srt_len cs; omega)
  have e2 := fuel (F' := n + 60) e2 (by omega)
  have e2 : callF P (n + 60) 35 [.ow false p1, .sh (.int nm), .sh (.tup ((srt cs).map nD)), .sh (.int 8), .sh (.int 2)] = .ok f false [.ow false q, .sh (.int nm), .sh (.tup ((srt cs).map nD)), .sh (.int 8), .sh (.int 2)] := e2
  have hsl := srt_len cs
  refine ⟨f, srt cs, q, ⟨hf, hfd, hn, nm_pool fun p hp => h2 p (srt_mem.mp hp), by omega⟩, hq.le (by rw [dB8]; omega), ?_⟩
  have bC := b_sub n g_l_constants
  have bF := b_sub n g_l_formula
  generalize (srt cs).map nD = C at *
  simp [t1, exec, eval, args, argOf, Arg.peek, doCall, takes, gives, bC, bF, f33, f35, e1, e2, Tg.store]
theorem s_t2 (g : Good nm f cs0) : exec (LN n) t2 [x0, x1, x2, x3, x4, .sh f, x6, x7, x8, x9, x10, x11, x12, x13, x14, x15, x16, x17] = .ok .nx [x0, x1, x2, x3, x4, .sh f, .sh (.tup ((numsOf f).map nD)), x7, x8, x9, x10, x11, x12, x13, x14, x15, x16, x17] := by
  have e := fuel (F' := n + 60) (c_l_numbers (fun p h => nm_nb (g.pool p h)) (by have := g.len; simp; omega) (n + 38) 19 g.fq (by have := g.dep; omega)) (by omega)
  have bN := b_sub n g_l_numbers
  have e : callF P (n + 60) 37 [.sh f] = .ok (.tup ((numsOf f).map nD)) false [.sh f] := e
  generalize (numsOf f).map nD = C at *
  simp [t2, exec, eval, args, argOf, Arg.peek, doCall, takes, gives, bN, f37, e, Tg.store]
theorem st_t3 {L : Lib} {x0 x1 x2 x4 x5 x7 x8 x9 x10 x11 x12 x13 x14 x15 x16 x17 : Sl} {nm : D} {C R Q : List D} {fr : Bool} (b_l_row : L.bor 39 = f39.bor) (b_l_places : L.bor 40 = f40.bor) (e1 : L.C 39 [.sh (.tup C), .sh nm] = .ok (.lst R) true [.sh (.tup C), .sh nm]) (e2 : L.C 40 [.sh (.lst R), .sh nm] = .ok (.lst Q) fr [.sh (.lst R), .sh nm]) : eval L (.call 40 [.call 39 [.var 6, .var 3] [0, 1], .var 3] [0, 1]) [x0, x1, x2, .sh nm, x4, x5, .sh (.tup C), x7, x8, x9, x10, x11, x12, x13, x14, x15, x16, x17] = .ok (.lst Q, fr) [x0, x1, x2, .sh nm, x4, x5, .sh (.tup C), x7, x8, x9, x10, x11, x12, x13, x14, x15, x16, x17] := by
  simp [exec, execs, eval, evals, args, argOf, Arg.peek, peeks, doCall, takes, gives, Tg.store, storeT, b_l_row, f39, b_l_places, f40, e1, e2]
theorem st_t4 {L : Lib} {x0 x1 x3 x4 x5 x6 x8 x9 x10 x11 x12 x13 x14 x15 x16 x17 : Sl} {pe : E} {Q Y : List D} {l : Bool} {q q2 : D} (b1 : eval L pe [x0, x1, .ow true q, x3, x4, x5, x6, .ow l (.lst Q), x8, x9, x10, x11, x12, x13, x14, x15, x16, x17] = .ok (.tup Y, false) [x0, x1, .ow true q2, x3, x4, x5, x6, .ow l (.lst Q), x8, x9, x10, x11, x12, x13, x14, x15, x16, x17]) (hz : Q.length + 1 ≤ 100000) : exec L (.asg (.name 7) (.bin .add (.var 7) (.lst [pe]))) [x0, x1, .ow true q, x3, x4, x5, x6, .ow l (.lst Q), x8, x9, x10, x11, x12, x13, x14, x15, x16, x17] = .ok .nx [x0, x1, .ow true q2, x3, x4, x5, x6, .ow true (.lst (Q ++ [.tup Y])), x8, x9, x10, x11, x12, x13, x14, x15, x16, x17] := by
  simp [exec, execs, eval, evals, args, argOf, Arg.peek, peeks, doCall, takes, gives, Tg.store, storeT, b1, hz]
/-- places of so many names, their numbers not too great -/
def Pls (nm : Nat) (ps : List (List Nu)) : Prop := ∀ pl ∈ ps, pl.length = nm ∧ ∀ p ∈ pl, Nb 226 p
theorem s_t3 (g : Good nm f cs0) : ∃ ps l, Pls nm ps ∧ ps.length ≤ 25 ∧ exec (LN n) t3 [x0, x1, x2, .sh (.int nm), x4, x5, .sh (.tup ((numsOf f).map nD)), x7, x8, x9, x10, x11, x12, x13, x14, x15, x16, x17] = .ok .nx [x0, x1, x2, .sh (.int nm), x4, x5, .sh (.tup ((numsOf f).map nD)), .ow l (.lst (ps.map pD)), x8, x9, x10, x11, x12, x13, x14, x15, x16, x17] := by
  obtain ⟨hl, hb⟩ := g.nums
  have hn := g.nm2
  have e1 := fuel (F' := n + 60) (c_l_row (n + 58) nm (numsOf f) (by omega) (by omega) fun q hq => (hb q hq).le (by decide)) (by omega)
  have rl := row_len2 (many := nm) (cs := numsOf f)
  have hlen : (rowN nm (numsOf f)).length ≤ 20 := by
    have : (nm + 1) * (numsOf f).length ≤ 3 * 3 := Nat.mul_le_mul (by omega) hl
    omega
  obtain ⟨ps, fr, h1, h2, e2⟩ := c_l_places (n + 59) nm (rowN nm (numsOf f)) hlen hn
  have e2 := fuel (F' := n + 60) e2 (by omega)
  have rb := row_nb (many := nm) (k := 110) (by omega) hb
  refine ⟨ps.take 25, true, fun pl hpl => ⟨(h1 pl (List.mem_of_mem_take hpl)).1, fun p hp => rb p ((h1 pl (List.mem_of_mem_take hpl)).2 p hp)⟩, by rw [List.length_take]; omega, ?_⟩
  have c1 : cutL (ps.map pD) none (some (25 : Int)) = (ps.take 25).map pD := by
    show cutL (ps.map pD) none (some ((25 : Nat) : Int)) = (ps.take 25).map pD
    rw [cutL_nat, List.map_take]
  have bR := b_sub n g_l_row
  have bP := b_sub n g_l_places
  generalize (ps.take 25).map pD = T at *
  generalize ps.map pD = Q at *
  generalize (rowN nm (numsOf f)).map nD = R at *
  generalize (numsOf f).map nD = C at *
  have ev : eval (LN n) t3E [x0, x1, x2, .sh (.int nm), x4, x5, .sh (.tup C), x7, x8, x9, x10, x11, x12, x13, x14, x15, x16, x17] = .ok (.lst Q, fr) [x0, x1, x2, .sh (.int nm), x4, x5, .sh (.tup C), x7, x8, x9, x10, x11, x12, x13, x14, x15, x16, x17] := st_t3 bR bP (c_lib e1) (c_lib e2)
  exact asg_of (i := 7) (cut_to (r := (.lst T, true)) (by simp [t3E]) ev (by rw [cutD, c1])) rfl
/-- a drawn place -/
theorem drawn_place (hp : Pou m p) (hm : m ≤ 80000) (hn : nm ≤ 2) : ∃ (pl : List Nu) (q : D), pl.length = nm ∧ (∀ p ∈ pl, Nb 226 p) ∧ Pou (m + 6) q ∧
    eval (LN n) plE [x0, x1, .ow true p, .sh (.int nm), x4, x5, x6, x7, x8, x9, x10, x11, x12, x13, x14, x15, x16, x17] = .ok (.lst (pl.map nD), true) [x0, x1, .ow true q, .sh (.int nm), x4, x5, x6, x7, x8, x9, x10, x11, x12, x13, x14, x15, x16, x17] := by
  have bN := b_sub n g_l_number
  have hi : (args (LN n) [.var 3] [x0, x1, .ow true p, .sh (.int nm), x4, x5, x6, x7, x8, x9, x10, x11, x12, x13, x14, x15, x16, x17]).bind (walkB .range) = .ok (rangeD 0 nm) [x0, x1, .ow true p, .sh (.int nm), x4, x5, x6, x7, x8, x9, x10, x11, x12, x13, x14, x15, x16, x17] := range_walkS (k := nm) (i := 3) (by omega) (by simp [args, argOf]) rfl
  have lc := Ok_lc (f := fun d e => match (Tg.name 16).store d false e with
            | none => .bad
            | some e1 => (holds (LN n) [] e1).bind fun b e2 => if b then (eval (LN n) (.call 32 [.var 2] [0]) e2).bind fun r e3 => .ok (some r.1) (wipeE e3 [16]) else .ok none (wipeE e2 [16]))
    (fun j ds env => ∃ (l : List Nu) (q : D), ds = l.map nD ∧ l.length = j ∧ (∀ q ∈ l, Nb 226 q) ∧ Pou (m + 3 * j) q ∧ env = [x0, x1, .ow true q, .sh (.int nm), x4, x5, x6, x7, x8, x9, x10, x11, x12, x13, x14, x15, .no, x17])
    (items := rangeD 0 nm) (env := wipeE [x0, x1, .ow true p, .sh (.int nm), x4, x5, x6, x7, x8, x9, x10, x11, x12, x13, x14, x15, x16, x17] [16]) (by rw [rangeD_len]; omega) ⟨[], p, rfl, rfl, by simp, by simpa using hp, by simp [wipeE]⟩ fun j hj acc env hl ⟨l, q, ha, hl2, hl3, hq, he⟩ => by
      subst he ha
      rw [rangeD_len] at hj
      obtain ⟨a, b, q2, hn2, hq2, e2⟩ := c_l_number (n + 58) q (m + 3 * j) hq (by omega)
      have e2 := fuel (F' := n + 60) e2 (by omega)
      refine Ok.of (a := some (num a b)) (e := [x0, x1, .ow true q2, .sh (.int nm), x4, x5, x6, x7, x8, x9, x10, x11, x12, x13, x14, x15, .no, x17]) (by simp [Tg.store, holds, eval, args, argOf, Arg.peek, doCall, takes, gives, bN, f32, e2, wipeE]) ⟨_, rfl, l ++ [(a, b)], q2, by simp, by simp [hl2], fun x hx => ?_, hq2.le (by omega), rfl⟩
      rcases List.mem_append.mp hx with h | h
      · exact hl3 x h
      · rw [List.mem_singleton] at h; subst h; exact (nm_nb hn2).le (by decide)
  obtain ⟨ds, env2, h2, h3, l, q, rfl, hl, hl3, hq, rfl⟩ := lc.ex
  rw [rangeD_len] at hl h3 hq
  have lcE := lc_of (L := LN n) (elt := .call 32 [.var 2] [0]) (own := [16]) (tg := .name 16) (conds := []) hi h2
  refine ⟨l, q, hl, hl3, hq.le (by omega), ?_⟩
  rw [plE, lcE]
  simp [backE]
theorem s_t4 {l : Bool} {ps : List (List Nu)} (hp : Pou m p) (hm : m ≤ 70000) (hn : nm ≤ 2) (hps : Pls nm ps) (hpl : ps.length ≤ 25) : Ok (exec (LN n) (.fo (.name 8) .range [.con (.int 4)] [t4b]) [x0, x1, .ow true p, .sh (.int nm), x4, x5, x6, .ow l (.lst (ps.map pD)), x8, x9, x10, x11, x12, x13, x14, x15, x16, x17]) fun fl e => fl = .nx ∧
    ∃ (ps' : List (List Nu)) (q : D) (x8 : Sl) (l : Bool), Pls nm ps' ∧ ps' ≠ [] ∧ ps'.length ≤ 29 ∧ Pou (m + 24) q ∧ e = [x0, x1, .ow true q, .sh (.int nm), x4, x5, x6, .ow l (.lst (ps'.map pD)), x8, x9, x10, x11, x12, x13, x14, x15, x16, x17] := by
  refine (Ok_foR (tg := .name 8) (b := [t4b]) (range_of (LN n) 4 4 rfl (by decide) _) (fun j env => ∃ (ps' : List (List Nu)) (q : D) (x8 : Sl) (l : Bool), Pls nm ps' ∧ (1 ≤ j → ps' ≠ []) ∧ ps'.length ≤ 25 + j ∧ Pou (m + 6 * j) q ∧ env = [x0, x1, .ow true q, .sh (.int nm), x4, x5, x6, .ow l (.lst (ps'.map pD)), x8, x9, x10, x11, x12, x13, x14, x15, x16, x17])
    ⟨ps, p, x8, l, hps, fun h => absurd h (by decide), by omega, by simpa using hp, rfl⟩ (fun j hj env ⟨ps', q, x8, l, h1, h2, h3, h4, he⟩ => ?_)).mono fun fl e ⟨h0, ps', q, x8, l, h1, h2, h3, h4, he⟩ => ⟨h0, ps', q, x8, l, h1, h2 (by decide), by omega, h4.le (by omega), he⟩
  subst he
  rw [Int.zero_add]
  obtain ⟨pl, q2, hl, hb, hq2, e⟩ := drawn_place (n := n) h4 (by omega) hn (x0 := x0) (x1 := x1) (x4 := x4) (x5 := x5) (x6 := x6) (x7 := .ow l (.lst (ps'.map pD))) (x8 := .sh (.int j)) (x9 := x9) (x10 := x10) (x11 := x11) (x12 := x12) (x13 := x13) (x14 := x14) (x15 := x15) (x16 := x16) (x17 := x17)
  have b1 := bi_one (f := .tuple) (by simp [plE]) e
  rw [biD_tupleL, pureR_some] at b1
  have b1 : eval (LN n) plTE _ = _ := b1
  have hz : (ps'.map pD).length + 1 ≤ 100000 := by rw [List.length_map]; omega
  have ap : (ps' ++ [pl]).map pD = ps'.map pD ++ [.tup (pl.map nD)] := by simp
  refine Ok_turn (by simp) (Ok_cons (Ok.of (a := .nx) (e := [x0, x1, .ow true q2, .sh (.int nm), x4, x5, x6, .ow true (.lst ((ps' ++ [pl]).map pD)), .sh (.int j), x9, x10, x11, x12, x13, x14, x15, x16, x17]) ?_ ⟨rfl, Ok_nil ⟨.inl rfl, ps' ++ [pl], q2, _, true, fun pl' h => ?_, fun _ => by simp, by simp; omega, hq2.le (by omega), rfl⟩⟩))
  · rw [ap]
    generalize ps'.map pD = Q at *
    generalize pl.map nD = Y at *
    exact st_t4 b1 hz
  · rcases List.mem_append.mp h with h | h
    · exact h1 pl' h
    · rw [List.mem_singleton] at h; subst h; exact ⟨hl, hb⟩
end
end Vk21


set_option Elab.async false
set_option linter.all false
set_option maxRecDepth 100000
set_option maxHeartbeats 4000000
namespace Vk21
open Pi Lk21

theorem fuelC {n F j : Nat} {as : List Sl} {r : CRes} (h : callF P F j as = r) (e : F = n + 60) : (LN n).C j as = r := c_lib (fuel h e)
theorem len18 (env : Env) (h : env.length = 18) : ∃ x0 x1 x2 x3 x4 x5 x6 x7 x8 x9 x10 x11 x12 x13 x14 x15 x16 x17, env = [x0, x1, x2, x3, x4, x5, x6, x7, x8, x9, x10, x11, x12, x13, x14, x15, x16, x17] := by
  match env, h with
  | [x0, x1, x2, x3, x4, x5, x6, x7, x8, x9, x10, x11, x12, x13, x14, x15, x16, x17], _ => exact ⟨_, _, _, _, _, _, _, _, _, _, _, _, _, _, _, _, _, _, rfl⟩
theorem st_t5 {L : Lib} {x0 x1 x2 x4 x7 x8 x10 x11 x12 x13 x14 x15 x16 x17 : Sl} {nm f C pl : D} {T : Bool} (b_is_true : L.bor 24 = f24.bor) (b_l_true : L.bor 38 = f38.bor) (b_l_same : L.bor 28 = f28.bor) (e1 : L.C 24 [.sh nm, .sh f, .sh pl] = .ok (.bl T) false [.sh nm, .sh f, .sh pl]) (e2 : L.C 38 [.sh C, .sh f, .sh pl] = .ok (.bl T) false [.sh C, .sh f, .sh pl]) (e3 : L.C 28 [.sh (.bl T), .sh (.bl T)] = .ok (.bl true) false [.sh (.bl T), .sh (.bl T)]) : exec L (.ite (.not (.call 28 [.call 24 [.var 3, .var 5, .var 9] [0, 1, 2], .call 38 [.var 6, .var 5, .var 9] [0, 1, 2]] [0, 1])) [.ret (.con (.bl false))] []) [x0, x1, x2, .sh nm, x4, .sh f, .sh C, x7, x8, .sh pl, x10, x11, x12, x13, x14, x15, x16, x17] = .ok .nx [x0, x1, x2, .sh nm, x4, .sh f, .sh C, x7, x8, .sh pl, x10, x11, x12, x13, x14, x15, x16, x17] := by
  simp [exec, execs, eval, evals, args, argOf, Arg.peek, peeks, doCall, takes, gives, Tg.store, storeT, b_is_true, f24, b_l_true, f38, b_l_same, f28, e1, e2, e3]
theorem st_t6 {L : Lib} {x0 x1 x2 x3 x4 x5 x6 x8 x9 x10 x11 x12 x13 x14 x15 x16 x17 : Sl} {Q : List D} {pl : D} (e1 : L2.atI Q (-1) = some pl) : exec L (.asg (.name 9) (.ix (.var 7) (.neg (.con (.int 1))))) [x0, x1, x2, x3, x4, x5, x6, .sh (.lst Q), x8, x9, x10, x11, x12, x13, x14, x15, x16, x17] = .ok .nx [x0, x1, x2, x3, x4, x5, x6, .sh (.lst Q), x8, .sh pl, x10, x11, x12, x13, x14, x15, x16, x17] := by
  simp [exec, execs, eval, evals, args, argOf, Arg.peek, peeks, doCall, takes, gives, Tg.store, storeT, e1]
theorem st_t7 {L : Lib} {x0 x1 x2 x4 x7 x8 x10 x11 x12 x13 x14 x15 x16 x17 : Sl} {nm f C pl : D} {T U : Bool} (b_is_true : L.bor 24 = f24.bor) (b_l_true : L.bor 38 = f38.bor) (b_l_same : L.bor 28 = f28.bor) (e1 : L.C 24 [.sh nm, .sh (.tup [.str "not", f]), .sh pl] = .ok (.bl T) false [.sh nm, .sh (.tup [.str "not", f]), .sh pl]) (e2 : L.C 38 [.sh C, .sh f, .sh pl] = .ok (.bl U) false [.sh C, .sh f, .sh pl]) (hT : T = !U) (e3 : L.C 28 [.sh (.bl T), .sh (.bl T)] = .ok (.bl true) false [.sh (.bl T), .sh (.bl T)]) : exec L (.ite (.not (.call 28 [.call 24 [.var 9, .var 3, .tup [.con (.str "not"), .var 5]] [1, 2, 0], .not (.call 38 [.var 6, .var 5, .var 9] [0, 1, 2])] [0, 1])) [.ret (.con (.bl false))] []) [x0, x1, x2, .sh nm, x4, .sh f, .sh C, x7, x8, .sh pl, x10, x11, x12, x13, x14, x15, x16, x17] = .ok .nx [x0, x1, x2, .sh nm, x4, .sh f, .sh C, x7, x8, .sh pl, x10, x11, x12, x13, x14, x15, x16, x17] := by
  subst hT
  simp [exec, execs, eval, evals, args, argOf, Arg.peek, peeks, doCall, takes, gives, Tg.store, storeT, b_is_true, f24, b_l_true, f38, b_l_same, f28, e1, e2, e3]
section
variable {n nm : Nat} {f p q : D} {m : Int} {cs0 : List Nu}
theorem asked (g : Good nm f cs0) (pl : List Nu) (hl : pl.length = nm) (hb : ∀ p ∈ pl, Nb 226 p) : ∃ T, (LN n).C 24 [.sh (.int nm), .sh f, .sh (pD pl)] = .ok (.bl T) false [.sh (.int nm), .sh f, .sh (pD pl)] ∧
    (LN n).C 38 [.sh (.tup ((numsOf f).map nD)), .sh f, .sh (pD pl)] = .ok (.bl T) false [.sh (.tup ((numsOf f).map nD)), .sh f, .sh (pD pl)] ∧
    (LN n).C 24 [.sh (.int nm), .sh (.tup [.str "not", f]), .sh (pD pl)] = .ok (.bl (!T)) false [.sh (.int nm), .sh (.tup [.str "not", f]), .sh (pD pl)] := by
  have hn := g.nm2
  have hd := g.dep
  have hlen := g.len
  have hpool : (((0, 1) : Nu) :: cs0).length ≤ 3 := by simp; omega
  have hb0 : ∀ p ∈ pl, Nb (kz 2) p := hb
  have e1 := c_is_true g.pool (by omega) (n + 33) 19 g.fq (by omega) (by omega) (by decide) (by decide) (.inr hpool) pl (by omega) (by omega) hb0
  obtain ⟨h1, h2⟩ := g.nums
  have e2 := c_l_true h2 (fun p h => nm_nb (g.pool p h)) (n + 35) g.fq 19 (by omega) (by decide) (.inr h1) pl (by omega) (by omega) hb0
  have e3 := c_is_true g.pool (by omega) (n + 32) 20 (.not _ _ _ g.fq) (by omega) (by rw [depth_tup, depths_cons, depths_cons]; simp only [D.depth, D.depths]; omega) (by decide) (by decide) (.inr hpool) pl (by omega) (by omega) hb0
  have en : numsF 21 (.tup [.str "not", f]) = numsF 20 f := by simp [numsF]
  rw [trueF_not] at e3
  simp only [Nat.reduceAdd] at e3
  rw [en] at e3
  exact ⟨_, fuelC e1 (by omega), fuelC e2 (by omega), fuelC e3 (by omega)⟩
theorem samed (T : Bool) : (LN n).C 28 [.sh (.bl T), .sh (.bl T)] = .ok (.bl true) false [.sh (.bl T), .sh (.bl T)] := fuelC (c_l_same (n + 59) 0 (.bl T) (by simp [D.depth]) (by simp [D.fine])) (by omega)
theorem turn (env : Env) (hlen : env.length = 18) (h2 : env[2]? = some (.ow true p)) (h3 : env[3]? = some (.sh (.int nm))) (hp : Pou m p) (hm : m ≤ 50000) (hn : nm ≤ 2) :
    Ok (execs (LN n) turnB env) fun fl e => fl = .nx ∧ ∃ (f q : D) (cs0 pl : List Nu), Good nm f cs0 ∧ Pou (m + 16431) q ∧ pl.length = nm ∧ (∀ p ∈ pl, Nb 226 p) ∧ e.length = 18 ∧ e[0]? = env[0]? ∧ e[1]? = env[1]? ∧ e[2]? = some (.ow true q) ∧ e[3]? = some (.sh (.int nm)) ∧ e[5]? = some (.sh f) ∧ e[9]? = some (.sh (pD pl)) := by
  obtain ⟨x0, x1, x2, x3, x4, x5, x6, x7, x8, x9, x10, x11, x12, x13, x14, x15, x16, x17, rfl⟩ := len18 env hlen
  simp only [List.getElem?_cons_succ, List.getElem?_cons_zero, Option.some.injEq] at h2 h3
  subst h2 h3
  obtain ⟨f, cs0, q, g, hq, e1⟩ := s_t1 (n := n) hp hm hn (x0 := x0) (x1 := x1) (x4 := x4) (x5 := x5) (x6 := x6) (x7 := x7) (x8 := x8) (x9 := x9) (x10 := x10) (x11 := x11) (x12 := x12) (x13 := x13) (x14 := x14) (x15 := x15) (x16 := x16) (x17 := x17)
  unfold turnB
  refine Ok_cons (Ok.of e1 ⟨rfl, ?_⟩)
  refine Ok_cons (Ok.of (s_t2 g) ⟨rfl, ?_⟩)
  obtain ⟨ps, l, h1, h2, e3⟩ := s_t3 (n := n) g (x0 := x0) (x1 := x1) (x2 := .ow true q) (x4 := x4) (x7 := x7) (x8 := x8) (x9 := x9) (x10 := x10) (x11 := x11) (x12 := x12) (x13 := x13) (x14 := x14) (x15 := x15) (x16 := x16) (x17 := x17)
  refine Ok_cons (Ok.of e3 ⟨rfl, ?_⟩)
  refine Ok_cons ((s_t4 hq (by omega) hn h1 h2).mono fun fl e ⟨h0, ps', q2, x8, l2, h3, h4, h5, h6, he⟩ => ⟨h0, ?_⟩)
  subst he
  have hi : (args (LN n) [.var 7] [x0, x1, .ow true q2, .sh (.int nm), x4, .sh f, .sh (.tup ((numsOf f).map nD)), .ow l2 (.lst (ps'.map pD)), x8, x9, x10, x11, x12, x13, x14, x15, x16, x17]).bind (walkB .seq) = .ok (ps'.map pD) [x0, x1, .ow true q2, .sh (.int nm), x4, .sh f, .sh (.tup ((numsOf f).map nD)), .sh (.lst (ps'.map pD)), x8, x9, x10, x11, x12, x13, x14, x15, x16, x17] := by cases l2 <;> rfl
  refine Ok_cons ((Ok_foM (tg := .name 9) (b := [t5b]) pD hi (fun j env => ∃ x9, env = [x0, x1, .ow true q2, .sh (.int nm), x4, .sh f, .sh (.tup ((numsOf f).map nD)), .sh (.lst (ps'.map pD)), x8, x9, x10, x11, x12, x13, x14, x15, x16, x17]) ⟨x9, rfl⟩ (fun j hj env ⟨x9, he⟩ => ?_)).mono fun fl e ⟨h0, x9, he⟩ => ⟨h0, ?_⟩)
  · subst he
    obtain ⟨h7, h8⟩ := h3 _ (List.getElem_mem hj)
    obtain ⟨T, e1, e2, _⟩ := asked (n := n) g _ h7 h8
    exact Ok_turn (by simp) (Ok_cons (Ok.of (st_t5 (b_sub n g_is_true) (b_sub n g_l_true) (b_sub n g_l_same) e1 e2 (samed T)) ⟨rfl, Ok_nil ⟨.inl rfl, _, rfl⟩⟩))
  · subst he
    have hpos := List.length_pos_iff.mpr h4
    have hla : L2.atI (ps'.map pD) (-1) = some (pD ps'[ps'.length - 1]) := by
      rw [atI_m1 (by simpa using h4), List.length_map, List.getElem?_map, List.getElem?_eq_getElem (by omega)]; rfl
    obtain ⟨h7, h8⟩ := h3 _ (List.getElem_mem (show ps'.length - 1 < ps'.length by omega))
    generalize ps'[ps'.length - 1] = pl at *
    refine Ok_cons (Ok.of (st_t6 hla) ⟨rfl, ?_⟩)
    obtain ⟨T, _, e2, e3⟩ := asked (n := n) g _ h7 h8
    exact Ok_cons (Ok.of (st_t7 (b_sub n g_is_true) (b_sub n g_l_true) (b_sub n g_l_same) e3 e2 rfl (samed _)) ⟨rfl, Ok_nil ⟨rfl, f, q2, cs0, pl, g, h6.le (by omega), h7, h8, rfl, rfl, rfl, rfl, rfl, rfl, rfl⟩⟩)
end
end Vk21


set_option Elab.async false
set_option linter.all false
set_option maxRecDepth 100000
set_option maxHeartbeats 4000000
namespace Vk21
open Pi Lk21

theorem st_a1 {L : Lib} {x2 x3 x4 x5 x6 x7 x8 x9 x10 x11 x12 x13 x14 x15 x16 x17 : Sl} {s k p : D} (b_l_pouch : L.bor 25 = f25.bor) (e1 : L.C 25 [.sh s, .sh k] = .ok p true [.sh s, .sh k]) : exec L (.asg (.name 2) (.call 25 [.var 0, .var 1] [0, 1])) [.sh s, .sh k, x2, x3, x4, x5, x6, x7, x8, x9, x10, x11, x12, x13, x14, x15, x16, x17] = .ok .nx [.sh s, .sh k, .ow true p, x3, x4, x5, x6, x7, x8, x9, x10, x11, x12, x13, x14, x15, x16, x17] := by
  simp [exec, execs, eval, evals, args, argOf, Arg.peek, peeks, doCall, takes, gives, Tg.store, storeT, b_l_pouch, f25, e1]
theorem st_a2 {L : Lib} {x0 x1 x3 x4 x5 x6 x7 x8 x9 x10 x11 x12 x13 x14 x15 x16 x17 : Sl} {p q r : D} (b_l_scoop : L.bor 26 = f26.bor) (e1 : L.C 26 [.ow false p, .sh (.int 3)] = .ok r false [.ow false q, .sh (.int 3)]) : exec L (.asg (.name 3) (.call 26 [.var 2, .con (.int 3)] [0, 1])) [x0, x1, .ow true p, x3, x4, x5, x6, x7, x8, x9, x10, x11, x12, x13, x14, x15, x16, x17] = .ok .nx [x0, x1, .ow true q, .sh r, x4, x5, x6, x7, x8, x9, x10, x11, x12, x13, x14, x15, x16, x17] := by
  simp [exec, execs, eval, evals, args, argOf, Arg.peek, peeks, doCall, takes, gives, Tg.store, storeT, b_l_scoop, f26, e1]
def pickL : List D := [.tup [.int 1, .int 30], .tup [.int 2, .int 20], .tup [.int 3, .int 7], .tup [.int 4, .int 2], .tup [.int 5, .int 1], .tup [.int 6, .int 0]]
theorem st_a4 {L : Lib} {x0 x1 x3 x4 x5 x6 x7 x8 x9 x10 x11 x12 x13 x14 x15 x16 x17 : Sl} {p q : D} {a b : Int} (b_l_pick : L.bor 27 = f27.bor) (e1 : L.C 27 [.ow false p, .sh (.lst [.tup [.int 1, .int 30], .tup [.int 2, .int 20], .tup [.int 3, .int 7], .tup [.int 4, .int 2], .tup [.int 5, .int 1], .tup [.int 6, .int 0]])] = .ok (.tup [.int a, .int b]) false [.ow false q, .sh (.lst [.tup [.int 1, .int 30], .tup [.int 2, .int 20], .tup [.int 3, .int 7], .tup [.int 4, .int 2], .tup [.int 5, .int 1], .tup [.int 6, .int 0]])]) : exec L (.asg (.tup [10, 11]) (.call 27 [.var 2, .lst [.tup [.con (.int 1), .con (.int 30)], .tup [.con (.int 2), .con (.int 20)], .tup [.con (.int 3), .con (.int 7)], .tup [.con (.int 4), .con (.int 2)], .tup [.con (.int 5), .con (.int 1)], .tup [.con (.int 6), .con (.int 0)]]] [0, 1])) [x0, x1, .ow true p, x3, x4, x5, x6, x7, x8, x9, x10, x11, x12, x13, x14, x15, x16, x17] = .ok .nx [x0, x1, .ow true q, x3, x4, x5, x6, x7, x8, x9, .sh (.int a), .sh (.int b), x12, x13, x14, x15, x16, x17] := by
  simp [exec, execs, eval, evals, args, argOf, Arg.peek, peeks, doCall, takes, gives, Tg.store, storeT, b_l_pick, f27, e1]
theorem st_a5 {L : Lib} {x0 x1 x3 x4 x5 x6 x7 x8 x9 x10 x12 x13 x14 x15 x16 x17 : Sl} {p q b C : D} (b_l_constants : L.bor 33 = f33.bor) (e1 : L.C 33 [.ow false p, .sh b] = .ok C false [.ow false q, .sh b]) : exec L (.asg (.name 6) (.call 33 [.var 2, .var 11] [0, 1])) [x0, x1, .ow true p, x3, x4, x5, x6, x7, x8, x9, x10, .sh b, x12, x13, x14, x15, x16, x17] = .ok .nx [x0, x1, .ow true q, x3, x4, x5, .sh C, x7, x8, x9, x10, .sh b, x12, x13, x14, x15, x16, x17] := by
  simp [exec, execs, eval, evals, args, argOf, Arg.peek, peeks, doCall, takes, gives, Tg.store, storeT, b_l_constants, f33, e1]
theorem st_a6 {L : Lib} {x0 x1 x3 x4 x5 x6 x7 x8 x9 x10 x11 x12 x13 x14 x15 x16 x17 : Sl} {pe : E} {p q : D} {Y : List D} (hv : ∀ i, pe ≠ .var i) (b1 : eval L pe [x0, x1, .ow true p, x3, x4, x5, x6, x7, x8, x9, x10, x11, x12, x13, x14, x15, x16, x17] = .ok (.lst Y, true) [x0, x1, .ow true q, x3, x4, x5, x6, x7, x8, x9, x10, x11, x12, x13, x14, x15, x16, x17]) : exec L (.asg (.name 12) (.tup [.con (.str "either"), .bi .tuple [pe]])) [x0, x1, .ow true p, x3, x4, x5, x6, x7, x8, x9, x10, x11, x12, x13, x14, x15, x16, x17] = .ok .nx [x0, x1, .ow true q, x3, x4, x5, x6, x7, x8, x9, x10, x11, .sh (.tup [.str "either", .tup Y]), x13, x14, x15, x16, x17] := by
  have b2 := bi_one (f := .tuple) hv b1
  rw [biD_tupleL, pureR_some] at b2
  generalize E.bi Bi.tuple [pe] = pe2 at *
  simp [exec, eval, evals, b2, Tg.store]
theorem st_pair {L : Lib} {env env1 : Env} {pe : E} {Y : List D} {s : PySem.Str} (hv : ∀ i, pe ≠ .var i) (b1 : eval L pe env = .ok (.lst Y, true) env1) : eval L (.tup [.con (.str s), .bi .tuple [pe]]) env = .ok (.tup [.str s, .tup Y], false) env1 := by
  have b2 := bi_one (f := .tuple) hv b1
  rw [biD_tupleL, pureR_some] at b2
  generalize E.bi Bi.tuple [pe] = pe2 at *
  simp [eval, evals, b2]
theorem st_in {L : Lib} {x0 x1 x3 x4 x5 x7 x8 x9 x11 x12 x13 x14 x15 x16 x17 : Sl} {p q C a f : D} (b_l_formula : L.bor 35 = f35.bor) (e1 : L.C 35 [.ow false p, .sh a, .sh C, .sh (.int 4), .sh (.int 0)] = .ok f false [.ow false q, .sh a, .sh C, .sh (.int 4), .sh (.int 0)]) : eval L (.call 35 [.var 2, .var 10, .var 6, .con (.int 4), .con (.int 0)] [0, 1, 2, 3, 4]) [x0, x1, .ow true p, x3, x4, x5, .sh C, x7, x8, x9, .sh a, x11, x12, x13, x14, x15, x16, x17] = .ok (f, false) [x0, x1, .ow true q, x3, x4, x5, .sh C, x7, x8, x9, .sh a, x11, x12, x13, x14, x15, x16, x17] := by
  simp [exec, execs, eval, evals, args, argOf, Arg.peek, peeks, doCall, takes, gives, Tg.store, storeT, b_l_formula, f35, e1]
theorem st_far {L : Lib} {x0 x1 x3 x4 x5 x7 x8 x9 x10 x11 x12 x13 x14 x15 x16 x17 : Sl} {p q q2 u r : D} {C : List D} (b_l_pick : L.bor 27 = f27.bor) (b_l_number : L.bor 32 = f32.bor) (e1 : L.C 32 [.ow false p] = .ok u false [.ow false q]) (hz : C.length + 3 ≤ 100000) (e2 : L.C 27 [.ow false q, .sh (.lst (C ++ [u, u, u]))] = .ok r false [.ow false q2, .sh (.lst (C ++ [u, u, u]))]) : eval L (.call 27 [.var 2, .bin .add (.bi .list [.var 6]) (.bin .mul (.lst [.call 32 [.var 2] [0]]) (.con (.int 3)))] [0, 1]) [x0, x1, .ow true p, x3, x4, x5, .sh (.tup C), x7, x8, x9, x10, x11, x12, x13, x14, x15, x16, x17] = .ok (r, false) [x0, x1, .ow true q2, x3, x4, x5, .sh (.tup C), x7, x8, x9, x10, x11, x12, x13, x14, x15, x16, x17] := by
  have rp : opD .mul (.lst [u]) (.int 3) = some (.lst [u, u, u], true) := by rw [opD_rep (by simp)]; rfl
  simp [exec, execs, eval, evals, args, argOf, Arg.peek, peeks, doCall, takes, gives, Tg.store, storeT, b_l_pick, f27, b_l_number, f32, e1, rp, hz, e2]
theorem st_a7f {L : Lib} {x0 x1 x3 x4 x5 x6 x7 x8 x9 x10 x11 x12 x13 x14 x15 x16 x17 : Sl} {pe : E} {p q : D} {Y : List D} (hv : ∀ i, pe ≠ .var i) (b1 : eval L pe [x0, x1, .ow true p, x3, x4, x5, x6, x7, x8, x9, x10, x11, x12, x13, x14, x15, x16, x17] = .ok (.lst Y, true) [x0, x1, .ow true q, x3, x4, x5, x6, x7, x8, x9, x10, x11, x12, x13, x14, x15, x16, x17]) : exec L (.asg (.name 13) (.bi .tuple [pe])) [x0, x1, .ow true p, x3, x4, x5, x6, x7, x8, x9, x10, x11, x12, x13, x14, x15, x16, x17] = .ok .nx [x0, x1, .ow true q, x3, x4, x5, x6, x7, x8, x9, x10, x11, x12, .sh (.tup Y), x14, x15, x16, x17] := by
  have b2 := bi_one (f := .tuple) hv b1
  rw [biD_tupleL, pureR_some] at b2
  generalize E.bi Bi.tuple [pe] = pe2 at *
  simp [exec, b2, Tg.store]
theorem st_a7s {L : Lib} {x0 x1 x2 x3 x4 x5 x6 x7 x8 x9 x11 x14 x15 x16 x17 : Sl} {nm f pl : D} {T : Bool} (b_is_true : L.bor 24 = f24.bor) (b_l_true : L.bor 38 = f38.bor) (b_l_same : L.bor 28 = f28.bor) (e1 : L.C 24 [.sh nm, .sh f, .sh pl] = .ok (.bl T) false [.sh nm, .sh f, .sh pl]) (e2 : L.C 38 [.sh (.tup []), .sh f, .sh pl] = .ok (.bl T) false [.sh (.tup []), .sh f, .sh pl]) (e3 : L.C 28 [.sh (.bl T), .sh (.bl T)] = .ok (.bl true) false [.sh (.bl T), .sh (.bl T)]) : exec L (.ite (.not (.call 28 [.call 24 [.var 10, .var 12, .var 13] [0, 1, 2], .call 38 [.tup [], .var 12, .var 13] [0, 1, 2]] [0, 1])) [.ret (.con (.bl false))] []) [x0, x1, x2, x3, x4, x5, x6, x7, x8, x9, .sh nm, x11, .sh f, .sh pl, x14, x15, x16, x17] = .ok .nx [x0, x1, x2, x3, x4, x5, x6, x7, x8, x9, .sh nm, x11, .sh f, .sh pl, x14, x15, x16, x17] := by
  simp [exec, execs, eval, evals, args, argOf, Arg.peek, peeks, doCall, takes, gives, Tg.store, storeT, b_is_true, f24, b_l_true, f38, b_l_same, f28, e1, e2, e3]
def wrongL (nm : Int) : List D := [.non, .tup [.str "less", .int nm, .tup [.int 0, .int 1]], .tup [.str "yes", .int 0], .tup [.str "both", .tup []], .lst [.str "yes"], .tup [.str "some", .tup [.str "same", .int (nm + 1), .int 0]]]
theorem st_a8 {L : Lib} {x0 x1 x4 x5 x6 x7 x8 x9 x10 x11 x12 x13 x14 x15 x16 x17 : Sl} {p q r : D} {nm : Int} (b_l_pick : L.bor 27 = f27.bor) (e1 : L.C 27 [.ow false p, .sh (.lst [.non, .tup [.str "less", .int nm, .tup [.int 0, .int 1]], .tup [.str "yes", .int 0], .tup [.str "both", .tup []], .lst [.str "yes"], .tup [.str "some", .tup [.str "same", .int (nm + 1), .int 0]]])] = .ok r false [.ow false q, .sh (.lst [.non, .tup [.str "less", .int nm, .tup [.int 0, .int 1]], .tup [.str "yes", .int 0], .tup [.str "both", .tup []], .lst [.str "yes"], .tup [.str "some", .tup [.str "same", .int (nm + 1), .int 0]]])]) : exec L (.asg (.name 14) (.call 27 [.var 2, .lst [.con (.non), .tup [.con (.str "less"), .var 3, .tup [.con (.int 0), .con (.int 1)]], .tup [.con (.str "yes"), .con (.int 0)], .tup [.con (.str "both"), .tup []], .lst [.con (.str "yes")], .tup [.con (.str "some"), .tup [.con (.str "same"), .bin .add (.var 3) (.con (.int 1)), .con (.int 0)]]]] [0, 1])) [x0, x1, .ow true p, .sh (.int nm), x4, x5, x6, x7, x8, x9, x10, x11, x12, x13, x14, x15, x16, x17] = .ok .nx [x0, x1, .ow true q, .sh (.int nm), x4, x5, x6, x7, x8, x9, x10, x11, x12, x13, .sh r, x15, x16, x17] := by
  simp [exec, execs, eval, evals, args, argOf, Arg.peek, peeks, doCall, takes, gives, Tg.store, storeT, b_l_pick, f27, e1]
theorem st_a9 {L : Lib} {x0 x1 x2 x4 x6 x7 x8 x10 x11 x12 x13 x15 x16 x17 : Sl} {nm f r : D} {Y : List D} (b_l_refused : L.bor 41 = f41.bor) (e1 : L.C 41 [.sh (.int (-1)), .sh r, .sh .non] = .ok (.tup [.str "count", .non]) false [.sh (.int (-1)), .sh r, .sh .non]) (e2 : L.C 41 [.sh nm, .sh r, .sh .non] = .ok (.tup [.str "formula", .non]) false [.sh nm, .sh r, .sh .non]) (e3 : L.C 41 [.sh nm, .sh f, .sh (.lst Y)] = .ok (.tup [.str "place", .int (-1)]) false [.sh nm, .sh f, .sh (.lst Y)]) : exec L (.asg (.name 15) (.lst [.call 41 [.neg (.con (.int 1)), .var 14, .con (.non)] [0, 1, 2], .call 41 [.var 3, .var 14, .con (.non)] [0, 1, 2], .call 41 [.var 3, .var 5, .bi .list [.var 9]] [0, 1, 2]])) [x0, x1, x2, .sh nm, x4, .sh f, x6, x7, x8, .sh (.tup Y), x10, x11, x12, x13, .sh r, x15, x16, x17] = .ok .nx [x0, x1, x2, .sh nm, x4, .sh f, x6, x7, x8, .sh (.tup Y), x10, x11, x12, x13, .sh r, .ow true (.lst [.tup [.str "count", .non], .tup [.str "formula", .non], .tup [.str "place", .int (-1)]]), x16, x17] := by
  simp [exec, execs, eval, evals, args, argOf, Arg.peek, peeks, doCall, takes, gives, Tg.store, storeT, b_l_refused, f41, e1, e2, e3]
theorem st_a10 {L : Lib} {x0 x1 x2 x4 x6 x7 x8 x10 x11 x12 x13 x14 x16 x17 : Sl} {nm f : D} {Y : List D} (b_l_refused : L.bor 41 = f41.bor) (hz : Y.length + 1 ≤ 100000) (e1 : L.C 41 [.sh nm, .sh f, .sh (.tup (Y ++ [.tup [.int 1, .int 1]]))] = .ok (.tup [.str "place", .int (-1)]) false [.sh nm, .sh f, .sh (.tup (Y ++ [.tup [.int 1, .int 1]]))]) : exec L (.ite (.or (.cmp .ne (.var 15) (.lst [.tup [.con (.str "count"), .con (.non)], .tup [.con (.str "formula"), .con (.non)], .tup [.con (.str "place"), .neg (.con (.int 1))]])) (.cmp .ne (.call 41 [.var 3, .var 5, .bin .add (.var 9) (.tup [.tup [.con (.int 1), .con (.int 1)]])] [0, 1, 2]) (.tup [.con (.str "place"), .neg (.con (.int 1))]))) [.ret (.con (.bl false))] []) [x0, x1, x2, .sh nm, x4, .sh f, x6, x7, x8, .sh (.tup Y), x10, x11, x12, x13, x14, .ow true (.lst [.tup [.str "count", .non], .tup [.str "formula", .non], .tup [.str "place", .int (-1)]]), x16, x17] = .ok .nx [x0, x1, x2, .sh nm, x4, .sh f, x6, x7, x8, .sh (.tup Y), x10, x11, x12, x13, x14, .ow true (.lst [.tup [.str "count", .non], .tup [.str "formula", .non], .tup [.str "place", .int (-1)]]), x16, x17] := by
  have c1 : cmpD .ne (.lst [.tup [.str "count", .non], .tup [.str "formula", .non], .tup [.str "place", .int (-1)]]) (.lst [.tup [.str "count", .non], .tup [.str "formula", .non], .tup [.str "place", .int (-1)]]) = some false := by decide +kernel
  have c2 : cmpD .ne (.tup [.str "place", .int (-1)]) (.tup [.str "place", .int (-1)]) = some false := by decide +kernel
  simp [exec, execs, eval, evals, args, argOf, Arg.peek, peeks, doCall, takes, gives, Tg.store, storeT, b_l_refused, f41, hz, e1, c1, c2]
theorem st_a11 {L : Lib} {x0 x1 x2 x4 x6 x7 x8 x10 x11 x12 x13 x14 x15 x16 x17 : Sl} {nm : Int} {f : D} {Y Z : List D} (b_l_refused : L.bor 41 = f41.bor) (hY : cutL Y (some (1 : Int)) none = Z) (hz : Z.length ≤ 10000) (e1 : 0 < nm → L.C 41 [.sh (.int nm), .sh f, .sh (.tup (.tup [.int 2, .int 2] :: Z))] = .ok (.tup [.str "place", .int 0]) false [.sh (.int nm), .sh f, .sh (.tup (.tup [.int 2, .int 2] :: Z))]) : exec L (.ite (.and (.cmp .gt (.var 3) (.con (.int 0))) (.cmp .ne (.call 41 [.var 3, .var 5, .bin .add (.tup [.tup [.con (.int 2), .con (.int 2)]]) (.cut (.var 9) (.con (.int 1)) (.con .non))] [0, 1, 2]) (.tup [.con (.str "place"), .con (.int 0)]))) [.ret (.con (.bl false))] []) [x0, x1, x2, .sh (.int nm), x4, .sh f, x6, x7, x8, .sh (.tup Y), x10, x11, x12, x13, x14, x15, x16, x17] = .ok .nx [x0, x1, x2, .sh (.int nm), x4, .sh f, x6, x7, x8, .sh (.tup Y), x10, x11, x12, x13, x14, x15, x16, x17] := by
  have c2 : cmpD .ne (.tup [.str "place", .int 0]) (.tup [.str "place", .int 0]) = some false := by decide +kernel
  have hz2 : 1 + Z.length ≤ 100000 := by omega
  by_cases hn : 0 < nm
  case neg => simp [exec, execs, eval, evals, args, argOf, Arg.peek, peeks, doCall, takes, gives, Tg.store, storeT, hn]
  simp [exec, execs, eval, evals, args, argOf, Arg.peek, peeks, doCall, takes, gives, Tg.store, storeT, b_l_refused, f41, partOf, cutD, hY, hz2, e1 hn, c2, hn]
section
variable {n nm : Nat} {f p q : D} {m : Int} {cs0 : List Nu} {x0 x1 x2 x3 x4 x5 x6 x7 x8 x9 x10 x11 x12 x13 x14 x15 x16 x17 : Sl}
theorem pickL_ok {d : D} (h : d ∈ pickL) : ∃ (a b : Nat), d = .tup [.int a, .int b] ∧ 1 ≤ a ∧ a ≤ 6 ∧ b ≤ 30 := by
  simp only [pickL, List.mem_cons, List.not_mem_nil, or_false] at h
  rcases h with rfl | rfl | rfl | rfl | rfl | rfl
  · exact ⟨1, 30, rfl, by decide, by decide, by decide⟩
  · exact ⟨2, 20, rfl, by decide, by decide, by decide⟩
  · exact ⟨3, 7, rfl, by decide, by decide, by decide⟩
  · exact ⟨4, 2, rfl, by decide, by decide, by decide⟩
  · exact ⟨5, 1, rfl, by decide, by decide, by decide⟩
  · exact ⟨6, 0, rfl, by decide, by decide, by decide⟩
/-- two formulas without some and all -/
theorem two {mo : Nat} {cs : List Nu} (hp : Pou m p) (hm : m ≤ 60000) (hmo : mo ≤ 6) (hc : ∀ q ∈ cs, NmP q) (hl : cs.length ≤ 30) : ∃ (fs : List D) (q : D), fs.length = 2 ∧ (∀ f ∈ fs, Fq ((0, 1) :: cs) 0 mo f ∧ f.depth ≤ 9) ∧ Pou (m + 400) q ∧
    eval (LN n) a6iE [x0, x1, .ow true p, x3, x4, x5, .sh (.tup (cs.map nD)), x7, x8, x9, .sh (.int mo), x11, x12, x13, x14, x15, x16, x17] = .ok (.lst fs, true) [x0, x1, .ow true q, x3, x4, x5, .sh (.tup (cs.map nD)), x7, x8, x9, .sh (.int mo), x11, x12, x13, x14, x15, x16, x17] := by
  have dB4 : dB 4 = 200 := by decide
  have lc := Ok_lc (f := fun d e => match (Tg.name 4).store d false e with
            | none => .bad
            | some e1 => (holds (LN n) [] e1).bind fun b e2 => if b then (eval (LN n) (.call 35 [.var 2, .var 10, .var 6, .con (.int 4), .con (.int 0)] [0, 1, 2, 3, 4]) e2).bind fun r e3 => .ok (some r.1) (wipeE e3 [4]) else .ok none (wipeE e2 [4]))
    (fun j ds env => ∃ (q : D), (∀ f ∈ ds, Fq ((0, 1) :: cs) 0 mo f ∧ f.depth ≤ 9) ∧ Pou (m + 200 * j) q ∧ env = [x0, x1, .ow true q, x3, .no, x5, .sh (.tup (cs.map nD)), x7, x8, x9, .sh (.int mo), x11, x12, x13, x14, x15, x16, x17])
    (items := rangeD 0 2) (env := wipeE [x0, x1, .ow true p, x3, x4, x5, .sh (.tup (cs.map nD)), x7, x8, x9, .sh (.int mo), x11, x12, x13, x14, x15, x16, x17] [4]) (by rw [rangeD_len]; decide) ⟨p, by simp, by simpa using hp, by simp [wipeE]⟩ fun j hj acc env hl2 ⟨q, h1, hq, he⟩ => by
      subst he
      rw [rangeD_len] at hj
      obtain ⟨f, q2, hf, hfd, hq2, e2⟩ := c_l_formula 4 (by decide) (n + 36) 4 (by decide) (by decide) mo 0 _ q cs hq (by rw [dB4]; omega) (by omega) (by omega) (by decide) hc (by omega)
      have e2 : callF P (n + 60) 35 [.ow false q, .sh (.int mo), .sh (.tup (cs.map nD)), .sh (.int 4), .sh (.int 0)] = .ok f false [.ow false q2, .sh (.int mo), .sh (.tup (cs.map nD)), .sh (.int 4), .sh (.int 0)] := fuel e2 (by omega)
      have st := fun xx => st_in (x0 := x0) (x1 := x1) (x3 := x3) (x4 := xx) (x5 := x5) (x7 := x7) (x8 := x8) (x9 := x9) (x11 := x11) (x12 := x12) (x13 := x13) (x14 := x14) (x15 := x15) (x16 := x16) (x17 := x17) (b_sub n g_l_formula) (c_lib e2)
      generalize cs.map nD = C at *
      generalize (rangeD 0 2)[j] = it at *
      refine Ok.of (a := some f) (e := [x0, x1, .ow true q2, x3, .no, x5, .sh (.tup C), x7, x8, x9, .sh (.int mo), x11, x12, x13, x14, x15, x16, x17]) (by simp [Tg.store, holds, st, wipeE]) ⟨_, rfl, q2, fun x hx => ?_, hq2.le (by rw [dB4]; omega), rfl⟩
      rcases List.mem_append.mp hx with h | h
      · exact h1 x h
      · rw [List.mem_singleton] at h; subst h; exact ⟨hf, by omega⟩
  obtain ⟨ds, env2, h2, h3, q, h4, hq, rfl⟩ := lc.ex
  rw [rangeD_len] at h3 hq
  have lcE := lc_of (L := LN n) (elt := .call 35 [.var 2, .var 10, .var 6, .con (.int 4), .con (.int 0)] [0, 1, 2, 3, 4]) (own := [4]) (tg := .name 4) (conds := []) (range_of (LN n) 2 2 rfl (by decide) [x0, x1, .ow true p, x3, x4, x5, .sh (.tup (cs.map nD)), x7, x8, x9, .sh (.int mo), x11, x12, x13, x14, x15, x16, x17]) h2
  refine ⟨ds, q, h3, h4, hq.le (by omega), ?_⟩
  rw [a6iE, lcE]
  simp [backE]
theorem wide {mo : Nat} {cs : List Nu} (hp : Pou m p) (hm : m ≤ 55000) (hmo : mo ≤ 6) (hc : ∀ q ∈ cs, NmP q) (hl : cs.length ≤ 30) : ∃ (fs : List D) (q : D), fs.length = 4 ∧ (∀ f ∈ fs, Fq ((0, 1) :: cs) 0 mo f ∧ f.depth ≤ 11) ∧ Pou (m + 1600) q ∧
    eval (LN n) a6oE [x0, x1, .ow true p, x3, x4, x5, .sh (.tup (cs.map nD)), x7, x8, x9, .sh (.int mo), x11, x12, x13, x14, x15, x16, x17] = .ok (.lst fs, true) [x0, x1, .ow true q, x3, x4, x5, .sh (.tup (cs.map nD)), x7, x8, x9, .sh (.int mo), x11, x12, x13, x14, x15, x16, x17] := by
  have lc := Ok_lc (f := fun d e => match (Tg.name 17).store d false e with
            | none => .bad
            | some e1 => (holds (LN n) [] e1).bind fun b e2 => if b then (eval (LN n) (.tup [.con (.str "both"), .bi .tuple [a6iE]]) e2).bind fun r e3 => .ok (some r.1) (wipeE e3 [17]) else .ok none (wipeE e2 [17]))
    (fun j ds env => ∃ (q : D), (∀ f ∈ ds, Fq ((0, 1) :: cs) 0 mo f ∧ f.depth ≤ 11) ∧ Pou (m + 400 * j) q ∧ env = [x0, x1, .ow true q, x3, x4, x5, .sh (.tup (cs.map nD)), x7, x8, x9, .sh (.int mo), x11, x12, x13, x14, x15, x16, .no])
    (items := rangeD 0 4) (env := wipeE [x0, x1, .ow true p, x3, x4, x5, .sh (.tup (cs.map nD)), x7, x8, x9, .sh (.int mo), x11, x12, x13, x14, x15, x16, x17] [17]) (by rw [rangeD_len]; decide) ⟨p, by simp, by simpa using hp, by simp [wipeE]⟩ fun j hj acc env hl2 ⟨q, h1, hq, he⟩ => by
      subst he
      rw [rangeD_len] at hj
      generalize (rangeD 0 4)[j] = it at *
      obtain ⟨fs, q2, h5, h6, hq2, e⟩ := two (n := n) hq (by omega) hmo hc hl (x0 := x0) (x1 := x1) (x3 := x3) (x4 := x4) (x5 := x5) (x7 := x7) (x8 := x8) (x9 := x9) (x11 := x11) (x12 := x12) (x13 := x13) (x14 := x14) (x15 := x15) (x16 := x16) (x17 := .sh it)
      have st := st_pair (s := "both") (by simp [a6iE]) e
      generalize E.tup [_, _] = pe at *
      generalize cs.map nD = C at *
      refine Ok.of (a := some (.tup [.str "both", .tup fs])) (e := [x0, x1, .ow true q2, x3, x4, x5, .sh (.tup C), x7, x8, x9, .sh (.int mo), x11, x12, x13, x14, x15, x16, .no]) (by simp [Tg.store, holds, st, wipeE]) ⟨_, rfl, q2, fun x hx => ?_, hq2.le (by omega), rfl⟩
      rcases List.mem_append.mp hx with h | h
      · exact h1 x h
      · rw [List.mem_singleton] at h; subst h
        refine ⟨.lst _ _ _ _ (.inl rfl) (fun z => by rw [z] at h5; cases h5) (by omega) fun y hy => (h6 y hy).1, ?_⟩
        have := depths_of (k := 9) (xs := fs) fun y hy => (h6 y hy).2
        rw [depth_tup, depths_cons, depths_cons, depth_tup]
        simp only [D.depth, D.depths]
        omega
  obtain ⟨ds, env2, h2, h3, q, h4, hq, rfl⟩ := lc.ex
  rw [rangeD_len] at h3 hq
  have lcE := lc_of (L := LN n) (elt := .tup [.con (.str "both"), .bi .tuple [a6iE]]) (own := [17]) (tg := .name 17) (conds := []) (range_of (LN n) 4 4 rfl (by decide) [x0, x1, .ow true p, x3, x4, x5, .sh (.tup (cs.map nD)), x7, x8, x9, .sh (.int mo), x11, x12, x13, x14, x15, x16, x17]) h2
  refine ⟨ds, q, h3, h4, hq.le (by omega), ?_⟩
  rw [a6oE, lcE]
  simp [backE]
theorem far {mo : Nat} {cs : List Nu} (hp : Pou m p) (hm : m ≤ 80000) (hmo : mo ≤ 6) (hc : ∀ q ∈ cs, NmP q) (hl : cs.length ≤ 30) : ∃ (pl : List Nu) (q : D), pl.length = mo ∧ (∀ p ∈ pl, NmP p) ∧ Pou (m + 24) q ∧
    eval (LN n) a7lE [x0, x1, .ow true p, x3, x4, x5, .sh (.tup (cs.map nD)), x7, x8, x9, .sh (.int mo), x11, x12, x13, x14, x15, x16, x17] = .ok (.lst (pl.map nD), true) [x0, x1, .ow true q, x3, x4, x5, .sh (.tup (cs.map nD)), x7, x8, x9, .sh (.int mo), x11, x12, x13, x14, x15, x16, x17] := by
  have lc := Ok_lc (f := fun d e => match (Tg.name 16).store d false e with
            | none => .bad
            | some e1 => (holds (LN n) [] e1).bind fun b e2 => if b then (eval (LN n) (.call 27 [.var 2, .bin .add (.bi .list [.var 6]) (.bin .mul (.lst [.call 32 [.var 2] [0]]) (.con (.int 3)))] [0, 1]) e2).bind fun r e3 => .ok (some r.1) (wipeE e3 [16]) else .ok none (wipeE e2 [16]))
    (fun j ds env => ∃ (l : List Nu) (q : D), ds = l.map nD ∧ l.length = j ∧ (∀ p ∈ l, NmP p) ∧ Pou (m + 4 * j) q ∧ env = [x0, x1, .ow true q, x3, x4, x5, .sh (.tup (cs.map nD)), x7, x8, x9, .sh (.int mo), x11, x12, x13, x14, x15, .no, x17])
    (items := rangeD 0 mo) (env := wipeE [x0, x1, .ow true p, x3, x4, x5, .sh (.tup (cs.map nD)), x7, x8, x9, .sh (.int mo), x11, x12, x13, x14, x15, x16, x17] [16]) (by rw [rangeD_len]; omega) ⟨[], p, rfl, rfl, by simp, by simpa using hp, by simp [wipeE]⟩ fun j hj acc env hl2 ⟨l, q, ha, hl3, hl4, hq, he⟩ => by
      subst he ha
      rw [rangeD_len] at hj
      obtain ⟨a, b, q2, hn2, hq2, e2⟩ := c_l_number (n + 58) q (m + 4 * j) hq (by omega)
      obtain ⟨r, q3, hr, hq3, e3⟩ := c_l_pick (n + 58) q2 (m + 4 * j + 3) (cs.map nD ++ [num a b, num a b, num a b]) hq2 (by omega) (by simp) (by simp; omega)
      have hz : (cs.map nD).length + 3 ≤ 100000 := by rw [List.length_map]; omega
      have st := fun xx => st_far (x0 := x0) (x1 := x1) (x3 := x3) (x4 := x4) (x5 := x5) (x7 := x7) (x8 := x8) (x9 := x9) (x10 := .sh (.int mo)) (x11 := x11) (x12 := x12) (x13 := x13) (x14 := x14) (x15 := x15) (x16 := xx) (x17 := x17) (b_sub n g_l_pick) (b_sub n g_l_number) (fuelC e2 (by omega)) hz (fuelC e3 (by omega))
      have hr2 : ∃ r', r = nD r' ∧ NmP r' := by
        rcases List.mem_append.mp hr with h | h
        · obtain ⟨p, hp, rfl⟩ := List.mem_map.mp h
          exact ⟨p, rfl, hc p hp⟩
        · simp only [List.mem_cons, List.not_mem_nil, or_false, or_self] at h
          exact ⟨(a, b), h, hn2⟩
      obtain ⟨r', rfl, hr3⟩ := hr2
      generalize (rangeD 0 mo)[j] = it at *
      refine Ok.of (a := some (nD r')) (e := [x0, x1, .ow true q3, x3, x4, x5, .sh (.tup (cs.map nD)), x7, x8, x9, .sh (.int mo), x11, x12, x13, x14, x15, .no, x17]) (by
        generalize nD r' = rr at *
        generalize cs.map nD = C at *
        simp [Tg.store, holds, st, wipeE]) ⟨_, rfl, l ++ [r'], q3, by simp, by simp [hl3], fun x hx => ?_, hq3.le (by omega), rfl⟩
      rcases List.mem_append.mp hx with h | h
      · exact hl4 x h
      · rw [List.mem_singleton] at h; subst h; exact hr3
  obtain ⟨ds, env2, h2, h3, l, q, rfl, hl5, h4, hq, rfl⟩ := lc.ex
  rw [rangeD_len] at h3 hq hl5
  have hi : (args (LN n) [.var 10] [x0, x1, .ow true p, x3, x4, x5, .sh (.tup (cs.map nD)), x7, x8, x9, .sh (.int mo), x11, x12, x13, x14, x15, x16, x17]).bind (walkB .range) = .ok (rangeD 0 mo) [x0, x1, .ow true p, x3, x4, x5, .sh (.tup (cs.map nD)), x7, x8, x9, .sh (.int mo), x11, x12, x13, x14, x15, x16, x17] := range_walkS (k := mo) (i := 10) (by omega) (by simp [args, argOf]) rfl
  have lcE := lc_of (L := LN n) (elt := .call 27 [.var 2, .bin .add (.bi .list [.var 6]) (.bin .mul (.lst [.call 32 [.var 2] [0]]) (.con (.int 3)))] [0, 1]) (own := [16]) (tg := .name 16) (conds := []) hi h2
  refine ⟨l, q, hl5, h4, hq.le (by omega), ?_⟩
  rw [a7lE, lcE]
  simp [backE]
/-- the wide formula is asked at a far place -/
theorem asked2 {mo : Nat} {pool : List Nu} {W : D} (h : Fq pool 0 mo W) (hpool : ∀ p ∈ pool, NmP p) (hl : pool.length ≤ 31) (hd : W.depth ≤ 19) (hmo : mo ≤ 6) (pl : List Nu) (hpl : pl.length = mo) (hb : ∀ p ∈ pl, NmP p) : ∃ T, (LN n).C 24 [.sh (.int mo), .sh W, .sh (pD pl)] = .ok (.bl T) false [.sh (.int mo), .sh W, .sh (pD pl)] ∧
    (LN n).C 38 [.sh (.tup []), .sh W, .sh (pD pl)] = .ok (.bl T) false [.sh (.tup []), .sh W, .sh (pD pl)] := by
  have hb0 : ∀ p ∈ pl, Nb (kz 0) p := fun p h => (nm_nb (hb p h)).le (by decide)
  have e1 := c_is_true hpool (by omega) (n + 33) 19 h (by omega) hd (by decide) (by decide) (.inl rfl) pl (by omega) (by omega) hb0
  have e2 := c_l_true (cs := []) (by simp) (fun p h => nm_nb (hpool p h)) (n + 35) h 19 hd (by decide) (.inl rfl) pl (by omega) (by omega) hb0
  rw [trueF_cs (cs' := []) h rfl] at e1
  exact ⟨_, fuelC e1 (by omega), fuelC e2 (by omega)⟩
theorem wrong_ok {r : D} (h : r ∈ wrongL nm) : r.depth ≤ 20 ∧ D.fine r ∧ isF 21 nm r = false := by
  simp only [wrongL, List.mem_cons, List.not_mem_nil, or_false] at h
  rcases h with rfl | rfl | rfl | rfl | rfl | rfl
  · exact ⟨by simp [D.depth], by simp [D.fine], rfl⟩
  · exact ⟨by simp [D.depth, D.depths], by simp [D.fine, D.fines], by rw [isF_3]; simp [isTm]⟩
  · exact ⟨by simp [D.depth, D.depths], by simp [D.fine, D.fines], by rw [isF_2]; simp⟩
  · exact ⟨by simp [D.depth, D.depths], by simp [D.fine, D.fines], by rw [isF_2]; simp⟩
  · exact ⟨by simp [D.depth, D.depths], by simp [D.fine, D.fines], rfl⟩
  · exact ⟨by simp [D.depth, D.depths], by simp [D.fine, D.fines], by rw [isF_2]; simp; rw [isF_3]; simp [isTm]⟩
/-- what is refused -/
theorem refused (g : Good nm f cs0) {r : D} (hr : r ∈ wrongL nm) (pl : List Nu) (hl : pl.length = nm) (hb : ∀ p ∈ pl, Nb 226 p) :
    (LN n).C 41 [.sh (.int (-1)), .sh r, .sh .non] = .ok (.tup [.str "count", .non]) false [.sh (.int (-1)), .sh r, .sh .non] ∧
    (LN n).C 41 [.sh (.int nm), .sh r, .sh .non] = .ok (.tup [.str "formula", .non]) false [.sh (.int nm), .sh r, .sh .non] ∧
    (LN n).C 41 [.sh (.int nm), .sh f, .sh (.lst (pl.map nD))] = .ok (.tup [.str "place", .int (-1)]) false [.sh (.int nm), .sh f, .sh (.lst (pl.map nD))] ∧
    (LN n).C 41 [.sh (.int nm), .sh f, .sh (.tup (pl.map nD ++ [.tup [.int 1, .int 1]]))] = .ok (.tup [.str "place", .int (-1)]) false [.sh (.int nm), .sh f, .sh (.tup (pl.map nD ++ [.tup [.int 1, .int 1]]))] ∧
    (0 < (nm : Int) → (LN n).C 41 [.sh (.int nm), .sh f, .sh (.tup (.tup [.int 2, .int 2] :: (pl.map nD).drop 1))] = .ok (.tup [.str "place", .int 0]) false [.sh (.int nm), .sh f, .sh (.tup (.tup [.int 2, .int 2] :: (pl.map nD).drop 1))]) := by
  obtain ⟨w1, w2, w3⟩ := wrong_ok hr
  have hn := g.nm2
  have hd := g.dep
  have fm := g.fq.fm g.pool
  have ff := (fm.sm (by omega)).2
  have fi := fm.isF 20 (by omega)
  have e1 := fuel (F' := n + 59) (x_is_true_count (n + 55) (-1) (by decide) r .non) (by omega)
  have e2 := fuel (F' := n + 59) (x_is_true_formula (n + 32) 20 nm r .non (by omega) w1 (by decide) w2 w3) (by omega)
  have p3 := x_check_place (n + 54) nm (.lst (pl.map nD)) (fun xs h => by cases h)
  have p4 := x_check_place (n + 54) nm (.tup (pl.map nD ++ [.tup [.int 1, .int 1]])) (fun xs h => by cases h; rw [List.length_append, List.length_map]; simp; omega)
  have e3 := fuel (F' := n + 59) (x_is_true_place (n + 32) 20 nm f (.lst (pl.map nD)) _ (by omega) (by omega) (by decide) ff fi (fuel p3 (by omega))) (by omega)
  have e4 := fuel (F' := n + 59) (x_is_true_place (n + 32) 20 nm f (.tup (pl.map nD ++ [.tup [.int 1, .int 1]])) _ (by omega) (by omega) (by decide) ff fi (fuel p4 (by omega))) (by omega)
  refine ⟨fuelC (c_l_refused (n + 59) _ _ _ _ (.inl rfl) e1) (by omega), fuelC (c_l_refused (n + 59) _ _ _ _ (.inr (.inl rfl)) e2) (by omega), fuelC (c_l_refused (n + 59) _ _ _ _ (.inr (.inr ⟨_, rfl⟩)) e3) (by omega), fuelC (c_l_refused (n + 59) _ _ _ _ (.inr (.inr ⟨_, rfl⟩)) e4) (by omega), fun hpos => ?_⟩
  have p5 := x_check_place0 (n + 54) nm (.tup [.int 2, .int 2]) ((pl.map nD).drop 1) (by rw [List.length_cons, List.length_drop, List.length_map]; omega) (by decide +kernel)
  have e5 := fuel (F' := n + 59) (x_is_true_place (n + 32) 20 nm f (.tup (.tup [.int 2, .int 2] :: (pl.map nD).drop 1)) _ (by omega) (by omega) (by decide) ff fi (fuel p5 (by omega))) (by omega)
  exact fuelC (c_l_refused (n + 59) _ _ _ _ (.inr (.inr ⟨_, rfl⟩)) e5) (by omega)
end
end Vk21


set_option Elab.async false
set_option linter.all false
set_option maxRecDepth 100000
set_option maxHeartbeats 4000000
namespace Vk21
open Pi Lk21

theorem cell {n : Nat} (ns : List Int) (k : Nat) (hk : k < 3) (env : Env) (hlen : env.length = 18) (h0 : env[0]? = some (.sh (.lst (ns.map D.int)))) (h1 : env[1]? = some (.sh (.int k))) :
    Ok (execs (LN n) lawB env) fun fl e => fl = .nx ∧ e.length = 18 ∧ e[0]? = some (.sh (.lst (ns.map D.int))) := by
  obtain ⟨x0, x1, x2, x3, x4, x5, x6, x7, x8, x9, x10, x11, x12, x13, x14, x15, x16, x17, rfl⟩ := len18 env hlen
  simp only [List.getElem?_cons_succ, List.getElem?_cons_zero, Option.some.injEq] at h0 h1
  subst h0 h1
  obtain ⟨c, fl, c0, cb, e1⟩ := c_l_pouch (n + 59) ns k hk
  have hp : Pou 26 (pou c fl (13 * k)) := ⟨c, fl, 13 * k, rfl, c0, cb, by omega, by omega⟩
  have bp := b_sub n g_l_pouch
  have bS := b_sub n g_l_scoop
  have e1 : (LN n).C 25 [.sh (.lst (ns.map D.int)), .sh (.int k)] = .ok (pou c fl (13 * k)) true [.sh (.lst (ns.map D.int)), .sh (.int k)] := fuelC e1 (by omega)
  generalize ns.map D.int = nsD at *
  generalize pou c fl (13 * k) = p at *
  unfold lawB
  refine Ok_cons (Ok.of (st_a1 bp e1) ⟨rfl, ?_⟩)
  obtain ⟨r, p1, r0, r1, hp1, e2⟩ := c_l_scoop (n + 59) p 26 3 hp (by omega) (by decide) (by decide)
  obtain ⟨nm, rfl⟩ : ∃ nm : Nat, r = nm := ⟨r.toNat, by omega⟩
  refine Ok_cons (Ok.of (st_a2 bS (fuelC e2 (by omega))) ⟨rfl, ?_⟩)
  -- three turns
  refine Ok_cons ((Ok_foR (tg := .name 4) (b := turnB) (range_of (LN n) 3 3 rfl (by decide) _) (fun j env => env.length = 18 ∧ env[0]? = some (.sh (.lst nsD)) ∧ env[3]? = some (.sh (.int nm)) ∧ ∃ (p : D), Pou (27 + 16431 * j) p ∧ env[2]? = some (.ow true p) ∧
      (1 ≤ j → ∃ (f : D) (cs0 pl : List Nu), Good nm f cs0 ∧ pl.length = nm ∧ (∀ p ∈ pl, Nb 226 p) ∧ env[5]? = some (.sh f) ∧ env[9]? = some (.sh (pD pl))))
    ⟨rfl, rfl, rfl, p1, by simpa using hp1, rfl, fun z => absurd z (by decide)⟩ (fun j hj env ⟨hl, h0, h3, p, hp, h2, _⟩ => ?_)).mono fun fl e ⟨hf, hl, h0, h3, p, hp, h2, hg⟩ => ⟨hf, ?_⟩)
  · refine Ok_turn (by omega) ((turn (n := n) (p := p) (nm := nm) (env.set 4 (.sh (.int (0 + j)))) (by simp; exact hl) (by simp [List.getElem?_set]; exact h2) (by simp [List.getElem?_set]; exact h3) hp (by omega) (by omega)).mono fun fl e ⟨hf, f, q, cs0, pl, g, hq, l1, l2, l3, l4, l5, l6, l7, l8, l9⟩ => ⟨.inl hf, l3, ?_, l7, q, hq.le (by omega), l6, fun _ => ⟨f, cs0, pl, g, l1, l2, l8, l9⟩⟩)
    rw [l4]
    simp [List.getElem?_set]
    exact h0
  · obtain ⟨f, cs0, pl, g, l1, l2, h5, h9⟩ := hg (by decide)
    obtain ⟨x0, x1, x2, x3, x4, x5, x6, x7, x8, x9, x10, x11, x12, x13, x14, x15, x16, x17, rfl⟩ := len18 e hl
    simp only [List.getElem?_cons_succ, List.getElem?_cons_zero, Option.some.injEq] at h0 h2 h3 h5 h9
    subst h0 h2 h3 h5 h9
    obtain ⟨d, p2, hd, hp2, e4⟩ := c_l_pick (n + 58) p (27 + 16431 * 3) pickL hp (by omega) (by simp [pickL]) (by simp [pickL])
    obtain ⟨mo, ms, rfl, hm1, hm6, hms⟩ := pickL_ok hd
    refine Ok_cons (Ok.of (st_a4 (b_sub n g_l_pick) (fuelC e4 (by omega))) ⟨rfl, ?_⟩)
    obtain ⟨cs, p3, hc1, hc2, hp3, e5⟩ := c_l_constants (n + 56) p2 _ ms hp2 (by omega) (by omega) (by omega)
    refine Ok_cons (Ok.of (st_a5 (b_sub n g_l_constants) (fuelC e5 (by omega))) ⟨rfl, ?_⟩)
    have hcl := srt_len cs
    have hc3 : ∀ p ∈ srt cs, NmP p := fun p h => hc2 p (srt_mem.mp h)
    generalize srt cs = cs2 at *
    obtain ⟨fs, p4, hf1, hf2, hp4, e6⟩ := wide (n := n) (cs := cs2) hp3 (by omega) hm6 hc3 (by omega) (x0 := .sh (.lst nsD)) (x1 := x1) (x3 := .sh (.int nm)) (x4 := x4) (x5 := .sh f) (x7 := x7) (x8 := x8) (x9 := .sh (pD pl)) (x11 := .sh (.int ms)) (x12 := x12) (x13 := x13) (x14 := x14) (x15 := x15) (x16 := x16) (x17 := x17)
    refine Ok_cons (Ok.of (st_a6 (by simp [a6oE]) e6) ⟨rfl, ?_⟩)
    have hW : Fq ((0, 1) :: cs2) 0 mo (.tup [.str "either", .tup fs]) := .lst _ _ _ _ (.inr rfl) (fun z => by rw [z] at hf1; cases hf1) (by omega) fun y hy => (hf2 y hy).1
    have hWd : (D.tup [.str "either", .tup fs]).depth ≤ 19 := by
      have := depths_of (k := 11) (xs := fs) fun y hy => (hf2 y hy).2
      rw [depth_tup, depths_cons, depths_cons, depth_tup]
      simp only [D.depth, D.depths]
      omega
    generalize D.tup [.str "either", .tup fs] = W at *
    have hpool : ∀ p ∈ ((0, 1) : Nu) :: cs2, NmP p := nm_pool hc3
    -- six places
    refine Ok_cons ((Ok_foR (tg := .name 4) (b := [a7f, a7s]) (range_of (LN n) 6 6 rfl (by decide) _) (fun j env => ∃ (x4 x13 p : D) (y4 y13 : Sl), Pou (52000 + 24 * j) p ∧ env = [.sh (.lst nsD), x1, .ow true p, .sh (.int nm), y4, .sh f, .sh (.tup (cs2.map nD)), x7, x8, .sh (pD pl), .sh (.int mo), .sh (.int ms), .sh W, y13, x14, x15, x16, x17])
      ⟨.non, .non, p4, _, _, hp4.le (by omega), rfl⟩ (fun j hj env ⟨_, _, p, y4, y13, hp, he⟩ => ?_)).mono fun fl e ⟨hf, _, _, p, y4, y13, hp, he⟩ => ⟨hf, ?_⟩)
    · subst he
      obtain ⟨pl', q, h1, h2, hq, e7⟩ := far (n := n) (cs := cs2) hp (by omega) hm6 hc3 (by omega) (x0 := .sh (.lst nsD)) (x1 := x1) (x3 := .sh (.int nm)) (x4 := .sh (.int (0 + j))) (x5 := .sh f) (x7 := x7) (x8 := x8) (x9 := .sh (pD pl)) (x11 := .sh (.int ms)) (x12 := .sh W) (x13 := y13) (x14 := x14) (x15 := x15) (x16 := x16) (x17 := x17)
      obtain ⟨T, a1, a2⟩ := asked2 (n := n) hW hpool (by simp; omega) hWd hm6 pl' h1 h2
      exact Ok_turn (by simp) (Ok_cons (Ok.of (st_a7f (by simp [a7lE]) e7) ⟨rfl, Ok_cons (Ok.of (st_a7s (b_sub n g_is_true) (b_sub n g_l_true) (b_sub n g_l_same) a1 a2 (samed T)) ⟨rfl, Ok_nil ⟨.inl rfl, .non, .non, q, _, _, hq.le (by omega), rfl⟩⟩)⟩))
    · subst he
      obtain ⟨r, p5, hr, hp5, e8⟩ := c_l_pick (n + 58) p (52000 + 24 * 6) (wrongL nm) hp (by omega) (by simp [wrongL]) (by simp [wrongL])
      refine Ok_cons (Ok.of (st_a8 (b_sub n g_l_pick) (fuelC e8 (by omega))) ⟨rfl, ?_⟩)
      obtain ⟨q1, q2, q3, q4, q5⟩ := refused (n := n) g hr pl l1 l2
      have bR := b_sub n g_l_refused
      have hz : (pl.map nD).length + 1 ≤ 100000 := by have := g.nm2; rw [List.length_map]; omega
      have hz2 : ((pl.map nD).drop 1).length ≤ 10000 := by have := g.nm2; rw [List.length_drop, List.length_map]; omega
      have hcut : cutL (pl.map nD) (some (1 : Int)) none = (pl.map nD).drop 1 := cutL_drop _ 1
      refine Ok_cons (Ok.of (st_a9 bR q1 q2 q3) ⟨rfl, ?_⟩)
      refine Ok_cons (Ok.of (st_a10 bR hz q4) ⟨rfl, ?_⟩)
      exact Ok_cons (Ok.of (st_a11 bR hcut hz2 q5) ⟨rfl, Ok_nil ⟨rfl, rfl, rfl⟩⟩)
theorem law (n : Nat) (ns : List Int) : callF P (n + 61) 42 [.sh (.lst (ns.map D.int))] = .ok (.bl true) false [.sh (.lst (ns.map D.int))] := by
  rw [callF_of g_law rfl rfl]
  show outF 1 (execs (LN n) b42 [.sh (.lst (ns.map D.int)), .no, .no, .no, .no, .no, .no, .no, .no, .no, .no, .no, .no, .no, .no, .no, .no, .no]) = _
  rw [law_body]
  have key := Ok_foR (tg := .name 1) (b := lawB) (range_of (LN n) 3 3 rfl (by decide) [.sh (.lst (ns.map D.int)), .no, .no, .no, .no, .no, .no, .no, .no, .no, .no, .no, .no, .no, .no, .no, .no, .no]) (fun j env => env.length = 18 ∧ env[0]? = some (.sh (.lst (ns.map D.int)))) ⟨rfl, rfl⟩ (fun j hj env ⟨hl, h0⟩ =>
    Ok_turn (by omega) ((cell (n := n) ns j hj (env.set 1 (.sh (.int (0 + j)))) (by simp; exact hl) (by simp [List.getElem?_set]; exact h0) (by simp [List.getElem?_set, hl])).mono fun fl e ⟨h1, h2, h3⟩ => ⟨.inl h1, h2, h3⟩))
  obtain ⟨fl, e, hx, rfl, hl, h0⟩ := key.ex
  obtain ⟨x0, x1, x2, x3, x4, x5, x6, x7, x8, x9, x10, x11, x12, x13, x14, x15, x16, x17, rfl⟩ := len18 e hl
  simp only [List.getElem?_cons_zero, Option.some.injEq] at h0
  subst h0
  rw [ss_nx hx]
  rfl
theorem plain (ns : List Int) (h : ns.length ≤ 63) : ∃ fr ps, callF P 200 42 [.sh (.lst (ns.map D.int))] = .ok (.bl true) fr ps := ⟨_, _, law 139 ns⟩
end Vk21


set_option Elab.async false
set_option linter.all false
set_option maxRecDepth 100000
set_option maxHeartbeats 0
namespace Lk21
open PySem PySem.Spec PyProof.Rows L2 Pi
def top (i : Nat) : Stmt := PySem.Challenge.pw_onlycompared_k21_truths_by_own_going.main.body.getD i (.Pass ⟨0, 0, 0, 0⟩)
def i0 : DefI := ⟨"is_integer", top 7, ([("thing" : PySem.Str)] : List PySem.Str), 1, [], [true], [(1, [], [0])]⟩
def i1 : DefI := ⟨"is_from", top 8, ([("low" : PySem.Str), ("thing" : PySem.Str)] : List PySem.Str), 2, [], [true, true], [(2, [], [0, 1])]⟩
def i2 : DefI := ⟨"is_below", top 9, ([("many" : PySem.Str), ("thing" : PySem.Str)] : List PySem.Str), 2, [], [true, true], [(2, [], [0, 1])]⟩
def i3 : DefI := ⟨"is_tuple", top 10, ([("many" : PySem.Str), ("thing" : PySem.Str)] : List PySem.Str), 2, [], [true, true], [(2, [], [0, 1])]⟩
def i4 : DefI := ⟨"check_count", top 11, ([("thing" : PySem.Str)] : List PySem.Str), 1, [], [true], [(1, [], [0])]⟩
def i5 : DefI := ⟨"is_number", top 13, ([("value" : PySem.Str)] : List PySem.Str), 1, [], [true], [(1, [], [0])]⟩
def i6 : DefI := ⟨"lowest", top 14, ([("top" : PySem.Str), ("bottom" : PySem.Str), ("shared" : PySem.Str)] : List PySem.Str), 2, [2], [true, true], [(2, [], [0, 1])]⟩
def i7 : DefI := ⟨"plus_in", top 15, ([("one" : PySem.Str), ("other" : PySem.Str)] : List PySem.Str), 2, [], [true, true], [(2, [], [0, 1])]⟩
def i8 : DefI := ⟨"minus_in", top 16, ([("one" : PySem.Str), ("other" : PySem.Str)] : List PySem.Str), 2, [], [true, true], [(2, [], [0, 1])]⟩
def i9 : DefI := ⟨"over_in", top 17, ([("one" : PySem.Str), ("other" : PySem.Str)] : List PySem.Str), 2, [], [true, true], [(2, [], [0, 1])]⟩
def i10 : DefI := ⟨"in_sequence", top 18, ([("numbers" : PySem.Str), ("some" : PySem.Str), ("multiple" : PySem.Str), ("number" : PySem.Str)] : List PySem.Str), 1, [1, 2, 3], [true], [(1, [], [0])]⟩
def i11 : DefI := ⟨"ahead", top 19, ([("number" : PySem.Str), ("other" : PySem.Str)] : List PySem.Str), 2, [], [true, true], [(2, [], [0, 1])]⟩
def i12 : DefI := ⟨"check_place", top 20, ([("names" : PySem.Str), ("thing" : PySem.Str), ("index" : PySem.Str), ("one" : PySem.Str)] : List PySem.Str), 2, [2, 3], [true, true], [(2, [], [0, 1])]⟩
def i13 : DefI := ⟨"is_term", top 21, ([("names" : PySem.Str), ("thing" : PySem.Str)] : List PySem.Str), 2, [], [true, true], [(2, [], [0, 1])]⟩
def i14 : DefI := ⟨"term_worth", top 22, ([("term" : PySem.Str), ("place" : PySem.Str)] : List PySem.Str), 2, [], [true, true], [(2, [], [0, 1])]⟩
def i15 : DefI := ⟨"together", top 23, ([("lots" : PySem.Str), ("lot" : PySem.Str), ("number" : PySem.Str)] : List PySem.Str), 1, [], [true], [(1, [], [0])]⟩
def i16 : DefI := ⟨"middle_in", top 24, ([("number" : PySem.Str), ("other" : PySem.Str)] : List PySem.Str), 2, [], [true, true], [(2, [], [0, 1])]⟩
def i17 : DefI := ⟨"candidates", top 26, ([("constants" : PySem.Str), ("place" : PySem.Str), ("points" : PySem.Str), ("found" : PySem.Str), ("one" : PySem.Str), ("later" : PySem.Str)] : List PySem.Str), 2, [2, 3, 4, 5], [true, true], [(2, [], [0, 1])]⟩
def i18 : DefI := ⟨"is_formula_in", top 29, ([("names" : PySem.Str), ("thing" : PySem.Str), ("word" : PySem.Str), ("one" : PySem.Str)] : List PySem.Str), 2, [2], [true, true], [(2, [], [0, 1])]⟩
def i19 : DefI := ⟨"check_formula", top 30, ([("names" : PySem.Str), ("thing" : PySem.Str)] : List PySem.Str), 2, [], [true, true], [(2, [], [0, 1])]⟩
def i20 : DefI := ⟨"parts_of", top 31, ([("formula" : PySem.Str)] : List PySem.Str), 1, [], [true], [(1, [], [0])]⟩
def i21 : DefI := ⟨"numbers_in", top 32, ([("formula" : PySem.Str), ("lots" : PySem.Str), ("one" : PySem.Str)] : List PySem.Str), 1, [1], [true], [(1, [], [0])]⟩
def i22 : DefI := ⟨"true_by", top 33, ([("constants" : PySem.Str), ("formula" : PySem.Str), ("place" : PySem.Str), ("word" : PySem.Str), ("one" : PySem.Str), ("two" : PySem.Str)] : List PySem.Str), 3, [3, 4, 5], [true, true, true], [(3, [], [0, 1, 2])]⟩
def i23 : DefI := ⟨"true_in", top 34, ([("formula" : PySem.Str), ("place" : PySem.Str)] : List PySem.Str), 2, [], [true, true], [(2, [], [0, 1])]⟩
def i24 : DefI := ⟨"is_true", top 35, ([("names" : PySem.Str), ("formula" : PySem.Str), ("place" : PySem.Str)] : List PySem.Str), 3, [], [true, true, true], [(0, ["place", "names", "formula"], [1, 2, 0]), (3, [], [0, 1, 2])]⟩
def i25 : DefI := ⟨"_law_pouch", top 37, ([("script" : PySem.Str), ("at" : PySem.Str), ("cell" : PySem.Str)] : List PySem.Str), 2, [2], [true, true], [(2, [], [0, 1])]⟩
def i26 : DefI := ⟨"_law_scoop", top 38, ([("pouch" : PySem.Str), ("many" : PySem.Str), ("digit" : PySem.Str), ("one" : PySem.Str)] : List PySem.Str), 2, [2, 3], [true, true], [(2, [], [0, 1])]⟩
def i27 : DefI := ⟨"_law_pick", top 39, ([("pouch" : PySem.Str), ("rows" : PySem.Str)] : List PySem.Str), 2, [], [true, true], [(2, [], [0, 1])]⟩
def i28 : DefI := ⟨"_law_same", top 40, ([("found" : PySem.Str), ("due" : PySem.Str), ("k" : PySem.Str)] : List PySem.Str), 2, [], [true, true], [(2, [], [0, 1])]⟩
def i29 : DefI := ⟨"_law_low", top 41, ([("top" : PySem.Str), ("bottom" : PySem.Str), ("one" : PySem.Str), ("two" : PySem.Str)] : List PySem.Str), 2, [2, 3], [true, true], [(2, [], [0, 1])]⟩
def i30 : DefI := ⟨"_law_ahead", top 42, ([("one" : PySem.Str), ("other" : PySem.Str)] : List PySem.Str), 2, [], [true, true], [(2, [], [0, 1])]⟩
def i31 : DefI := ⟨"_law_sorted", top 43, ([("numbers" : PySem.Str), ("found" : PySem.Str), ("number" : PySem.Str), ("at" : PySem.Str), ("one" : PySem.Str)] : List PySem.Str), 1, [1, 2, 3], [true], [(1, [], [0])]⟩
def i32 : DefI := ⟨"_law_number", top 44, ([("pouch" : PySem.Str), ("way" : PySem.Str), ("top" : PySem.Str), ("great" : PySem.Str)] : List PySem.Str), 1, [1, 2, 3], [true], [(1, [], [0])]⟩
def i33 : DefI := ⟨"_law_constants", top 45, ([("pouch" : PySem.Str), ("many" : PySem.Str), ("turn" : PySem.Str)] : List PySem.Str), 2, [], [true, true], [(2, [], [0, 1])]⟩
def i34 : DefI := ⟨"_law_term", top 46, ([("pouch" : PySem.Str), ("names" : PySem.Str), ("constants" : PySem.Str), ("terms" : PySem.Str)] : List PySem.Str), 3, [3], [true, true, true], [(3, [], [0, 1, 2])]⟩
def i35 : DefI := ⟨"_law_formula", top 47, ([("pouch" : PySem.Str), ("names" : PySem.Str), ("constants" : PySem.Str), ("most" : PySem.Str), ("deep" : PySem.Str), ("way" : PySem.Str), ("parts" : PySem.Str), ("left" : PySem.Str), ("turn" : PySem.Str)] : List PySem.Str), 5, [5, 6, 7, 8], [true, true, true, true, true], [(5, [], [0, 1, 2, 3, 4])]⟩
def i36 : DefI := ⟨"_law_weight", top 48, ([("formula" : PySem.Str), ("one" : PySem.Str)] : List PySem.Str), 1, [], [true], [(1, [], [0])]⟩
def i37 : DefI := ⟨"_law_numbers", top 49, ([("formula" : PySem.Str), ("found" : PySem.Str), ("one" : PySem.Str)] : List PySem.Str), 1, [1, 2], [true], [(1, [], [0])]⟩
def i38 : DefI := ⟨"_law_true", top 50, ([("constants" : PySem.Str), ("formula" : PySem.Str), ("place" : PySem.Str), ("word" : PySem.Str), ("one" : PySem.Str), ("two" : PySem.Str), ("told" : PySem.Str), ("row" : PySem.Str), ("term" : PySem.Str), ("number" : PySem.Str)] : List PySem.Str), 3, [3, 4, 5, 6, 7], [true, true, true], [(3, [], [0, 1, 2])]⟩
def i39 : DefI := ⟨"_law_row", top 51, ([("constants" : PySem.Str), ("many" : PySem.Str), ("first" : PySem.Str), ("last" : PySem.Str), ("row" : PySem.Str), ("k" : PySem.Str), ("low" : PySem.Str), ("high" : PySem.Str), ("wide" : PySem.Str), ("at" : PySem.Str)] : List PySem.Str), 2, [2, 3, 4, 5, 6, 7, 8, 9], [true, true], [(2, [], [0, 1])]⟩
def i40 : DefI := ⟨"_law_places", top 52, ([("row" : PySem.Str), ("names" : PySem.Str), ("found" : PySem.Str), ("turn" : PySem.Str), ("longer" : PySem.Str), ("place" : PySem.Str), ("number" : PySem.Str)] : List PySem.Str), 2, [2, 3, 4, 5], [true, true], [(2, [], [0, 1])]⟩
def i41 : DefI := ⟨"_law_refused", top 53, ([("names" : PySem.Str), ("formula" : PySem.Str), ("place" : PySem.Str), ("found" : PySem.Str), ("e" : PySem.Str)] : List PySem.Str), 3, [3, 4], [true, true, true], [(3, [], [0, 1, 2])]⟩
def i42 : DefI := ⟨"law", top 54, (List.append ([("script" : PySem.Str), ("at" : PySem.Str), ("pouch" : PySem.Str), ("names" : PySem.Str), ("turn" : PySem.Str), ("formula" : PySem.Str), ("constants" : PySem.Str), ("places" : PySem.Str), ("k" : PySem.Str), ("place" : PySem.Str), ("more" : PySem.Str), ("most" : PySem.Str)] : List PySem.Str) ([("wide" : PySem.Str), ("far" : PySem.Str), ("wrong" : PySem.Str), ("told" : PySem.Str), ("name" : PySem.Str), ("part" : PySem.Str)] : List PySem.Str)), 1, [1, 2, 3, 4, 5, 6, 7, 8, 9, 10, 11, 12, 13, 14, 15], [true], []⟩
def defs : List DefI := [i0, i1, i2, i3, i4, i5, i6, i7, i8, i9, i10, i11, i12, i13, i14, i15, i16, i17, i18, i19, i20, i21, i22, i23, i24, i25, i26, i27, i28, i29, i30, i31, i32, i33, i34, i35, i36, i37, i38, i39, i40, i41, i42]
def flds : List FldI := [⟨"InvalidPlace", 2, "index", clsFn (top 4)⟩]
def T : Tab := ⟨tabFns defs, (List.append ([("abs" : PySem.Str), ("all" : PySem.Str), ("any" : PySem.Str), ("bool" : PySem.Str), ("enumerate" : PySem.Str), ("int" : PySem.Str), ("isinstance" : PySem.Str), ("len" : PySem.Str), ("list" : PySem.Str), ("range" : PySem.Str), ("sorted" : PySem.Str), ("str" : PySem.Str)] : List PySem.Str) ([("sum" : PySem.Str), ("tuple" : PySem.Str), ("zip" : PySem.Str)] : List PySem.Str)), [("CompareError", 0), ("InvalidCount", 1), ("InvalidPlace", 2), ("InvalidFormula", 3)], [("YES", 0)], true, [], true, some "in_sequence", tabFld flds⟩
def t : Text := ⟨defs, T, P, flds⟩
theorem c0 : i0.fn T = some f0 := by kernel_rfl
theorem c1 : i1.fn T = some f1 := by kernel_rfl
theorem c2 : i2.fn T = some f2 := by kernel_rfl
theorem c3 : i3.fn T = some f3 := by kernel_rfl
theorem c4 : i4.fn T = some f4 := by kernel_rfl
theorem c5 : i5.fn T = some f5 := by kernel_rfl
theorem c6 : i6.fn T = some f6 := by kernel_rfl
theorem c7 : i7.fn T = some f7 := by kernel_rfl
theorem c8 : i8.fn T = some f8 := by kernel_rfl
theorem c9 : i9.fn T = some f9 := by kernel_rfl
theorem c10 : i10.fn T = some f10 := by kernel_rfl
theorem c11 : i11.fn T = some f11 := by kernel_rfl
theorem c12 : i12.fn T = some f12 := by kernel_rfl
theorem c13 : i13.fn T = some f13 := by kernel_rfl
theorem c14 : i14.fn T = some f14 := by kernel_rfl
theorem c15 : i15.fn T = some f15 := by kernel_rfl
theorem c16 : i16.fn T = some f16 := by kernel_rfl
theorem c17 : i17.fn T = some f17 := by kernel_rfl
theorem c18 : i18.fn T = some f18 := by kernel_rfl
theorem c19 : i19.fn T = some f19 := by kernel_rfl
theorem c20 : i20.fn T = some f20 := by kernel_rfl
theorem c21 : i21.fn T = some f21 := by kernel_rfl
theorem c22 : i22.fn T = some f22 := by kernel_rfl
theorem c23 : i23.fn T = some f23 := by kernel_rfl
theorem c24 : i24.fn T = some f24 := by kernel_rfl
theorem c25 : i25.fn T = some f25 := by kernel_rfl
theorem c26 : i26.fn T = some f26 := by kernel_rfl
theorem c27 : i27.fn T = some f27 := by kernel_rfl
theorem c28 : i28.fn T = some f28 := by kernel_rfl
theorem c29 : i29.fn T = some f29 := by kernel_rfl
theorem c30 : i30.fn T = some f30 := by kernel_rfl
theorem c31 : i31.fn T = some f31 := by kernel_rfl
theorem c32 : i32.fn T = some f32 := by kernel_rfl
theorem c33 : i33.fn T = some f33 := by kernel_rfl
theorem c34 : i34.fn T = some f34 := by kernel_rfl
theorem c35 : i35.fn T = some f35 := by kernel_rfl
theorem c36 : i36.fn T = some f36 := by kernel_rfl
theorem c37 : i37.fn T = some f37 := by kernel_rfl
theorem c38 : i38.fn T = some f38 := by kernel_rfl
theorem c39 : i39.fn T = some f39 := by kernel_rfl
theorem c40 : i40.fn T = some f40 := by kernel_rfl
theorem c41 : i41.fn T = some f41 := by kernel_rfl
theorem c42 : i42.fn T = some f42 := by kernel_rfl
theorem comp : defs.map (·.fn T) = P.G.map some := by
  show [i0.fn T, i1.fn T, i2.fn T, i3.fn T, i4.fn T, i5.fn T, i6.fn T, i7.fn T, i8.fn T, i9.fn T, i10.fn T, i11.fn T, i12.fn T, i13.fn T, i14.fn T, i15.fn T, i16.fn T, i17.fn T, i18.fn T, i19.fn T, i20.fn T, i21.fn T, i22.fn T, i23.fn T, i24.fn T, i25.fn T, i26.fn T, i27.fn T, i28.fn T, i29.fn T, i30.fn T, i31.fn T, i32.fn T, i33.fn T, i34.fn T, i35.fn T, i36.fn T, i37.fn T, i38.fn T, i39.fn T, i40.fn T, i41.fn T, i42.fn T] = [some f0, some f1, some f2, some f3, some f4, some f5, some f6, some f7, some f8, some f9, some f10, some f11, some f12, some f13, some f14, some f15, some f16, some f17, some f18, some f19, some f20, some f21, some f22, some f23, some f24, some f25, some f26, some f27, some f28, some f29, some f30, some f31, some f32, some f33, some f34, some f35, some f36, some f37, some f38, some f39, some f40, some f41, some f42]
  rw [c0, c1, c2, c3, c4, c5, c6, c7, c8, c9, c10, c11, c12, c13, c14, c15, c16, c17, c18, c19, c20, c21, c22, c23, c24, c25, c26, c27, c28, c29, c30, c31, c32, c33, c34, c35, c36, c37, c38, c39, c40, c41, c42]
theorem okB : defs.all DefI.okB = true := by kernel_rfl
theorem bd0 : i0.Bd := List.forall_mem_cons.mpr ⟨fun kV doc pm an cdv ct us ws hu hw => match us, ws, hu, hw with | [_], [], _, _ => rfl, (List.forall_mem_nil _)⟩
theorem bd1 : i1.Bd := List.forall_mem_cons.mpr ⟨fun kV doc pm an cdv ct us ws hu hw => match us, ws, hu, hw with | [_, _], [], _, _ => rfl, (List.forall_mem_nil _)⟩
theorem bd2 : i2.Bd := List.forall_mem_cons.mpr ⟨fun kV doc pm an cdv ct us ws hu hw => match us, ws, hu, hw with | [_, _], [], _, _ => rfl, (List.forall_mem_nil _)⟩
theorem bd3 : i3.Bd := List.forall_mem_cons.mpr ⟨fun kV doc pm an cdv ct us ws hu hw => match us, ws, hu, hw with | [_, _], [], _, _ => rfl, (List.forall_mem_nil _)⟩
theorem bd4 : i4.Bd := List.forall_mem_cons.mpr ⟨fun kV doc pm an cdv ct us ws hu hw => match us, ws, hu, hw with | [_], [], _, _ => rfl, (List.forall_mem_nil _)⟩
theorem bd5 : i5.Bd := List.forall_mem_cons.mpr ⟨fun kV doc pm an cdv ct us ws hu hw => match us, ws, hu, hw with | [_], [], _, _ => rfl, (List.forall_mem_nil _)⟩
theorem bd6 : i6.Bd := List.forall_mem_cons.mpr ⟨fun kV doc pm an cdv ct us ws hu hw => match us, ws, hu, hw with | [_, _], [], _, _ => rfl, (List.forall_mem_nil _)⟩
theorem bd7 : i7.Bd := List.forall_mem_cons.mpr ⟨fun kV doc pm an cdv ct us ws hu hw => match us, ws, hu, hw with | [_, _], [], _, _ => rfl, (List.forall_mem_nil _)⟩
theorem bd8 : i8.Bd := List.forall_mem_cons.mpr ⟨fun kV doc pm an cdv ct us ws hu hw => match us, ws, hu, hw with | [_, _], [], _, _ => rfl, (List.forall_mem_nil _)⟩
theorem bd9 : i9.Bd := List.forall_mem_cons.mpr ⟨fun kV doc pm an cdv ct us ws hu hw => match us, ws, hu, hw with | [_, _], [], _, _ => rfl, (List.forall_mem_nil _)⟩
theorem bd10 : i10.Bd := List.forall_mem_cons.mpr ⟨fun kV doc pm an cdv ct us ws hu hw => match us, ws, hu, hw with | [_], [], _, _ => rfl, (List.forall_mem_nil _)⟩
theorem bd11 : i11.Bd := List.forall_mem_cons.mpr ⟨fun kV doc pm an cdv ct us ws hu hw => match us, ws, hu, hw with | [_, _], [], _, _ => rfl, (List.forall_mem_nil _)⟩
theorem bd12 : i12.Bd := List.forall_mem_cons.mpr ⟨fun kV doc pm an cdv ct us ws hu hw => match us, ws, hu, hw with | [_, _], [], _, _ => rfl, (List.forall_mem_nil _)⟩
theorem bd13 : i13.Bd := List.forall_mem_cons.mpr ⟨fun kV doc pm an cdv ct us ws hu hw => match us, ws, hu, hw with | [_, _], [], _, _ => rfl, (List.forall_mem_nil _)⟩
theorem bd14 : i14.Bd := List.forall_mem_cons.mpr ⟨fun kV doc pm an cdv ct us ws hu hw => match us, ws, hu, hw with | [_, _], [], _, _ => rfl, (List.forall_mem_nil _)⟩
theorem bd15 : i15.Bd := List.forall_mem_cons.mpr ⟨fun kV doc pm an cdv ct us ws hu hw => match us, ws, hu, hw with | [_], [], _, _ => rfl, (List.forall_mem_nil _)⟩
theorem bd16 : i16.Bd := List.forall_mem_cons.mpr ⟨fun kV doc pm an cdv ct us ws hu hw => match us, ws, hu, hw with | [_, _], [], _, _ => rfl, (List.forall_mem_nil _)⟩
theorem bd17 : i17.Bd := List.forall_mem_cons.mpr ⟨fun kV doc pm an cdv ct us ws hu hw => match us, ws, hu, hw with | [_, _], [], _, _ => rfl, (List.forall_mem_nil _)⟩
theorem bd18 : i18.Bd := List.forall_mem_cons.mpr ⟨fun kV doc pm an cdv ct us ws hu hw => match us, ws, hu, hw with | [_, _], [], _, _ => rfl, (List.forall_mem_nil _)⟩
theorem bd19 : i19.Bd := List.forall_mem_cons.mpr ⟨fun kV doc pm an cdv ct us ws hu hw => match us, ws, hu, hw with | [_, _], [], _, _ => rfl, (List.forall_mem_nil _)⟩
theorem bd20 : i20.Bd := List.forall_mem_cons.mpr ⟨fun kV doc pm an cdv ct us ws hu hw => match us, ws, hu, hw with | [_], [], _, _ => rfl, (List.forall_mem_nil _)⟩
theorem bd21 : i21.Bd := List.forall_mem_cons.mpr ⟨fun kV doc pm an cdv ct us ws hu hw => match us, ws, hu, hw with | [_], [], _, _ => rfl, (List.forall_mem_nil _)⟩
theorem bd22 : i22.Bd := List.forall_mem_cons.mpr ⟨fun kV doc pm an cdv ct us ws hu hw => match us, ws, hu, hw with | [_, _, _], [], _, _ => rfl, (List.forall_mem_nil _)⟩
theorem bd23 : i23.Bd := List.forall_mem_cons.mpr ⟨fun kV doc pm an cdv ct us ws hu hw => match us, ws, hu, hw with | [_, _], [], _, _ => rfl, (List.forall_mem_nil _)⟩
theorem bd24 : i24.Bd := List.forall_mem_cons.mpr ⟨fun kV doc pm an cdv ct us ws hu hw => match us, ws, hu, hw with | [], [_, _, _], _, _ => rfl, List.forall_mem_cons.mpr ⟨fun kV doc pm an cdv ct us ws hu hw => match us, ws, hu, hw with | [_, _, _], [], _, _ => rfl, (List.forall_mem_nil _)⟩⟩
theorem bd25 : i25.Bd := List.forall_mem_cons.mpr ⟨fun kV doc pm an cdv ct us ws hu hw => match us, ws, hu, hw with | [_, _], [], _, _ => rfl, (List.forall_mem_nil _)⟩
theorem bd26 : i26.Bd := List.forall_mem_cons.mpr ⟨fun kV doc pm an cdv ct us ws hu hw => match us, ws, hu, hw with | [_, _], [], _, _ => rfl, (List.forall_mem_nil _)⟩
theorem bd27 : i27.Bd := List.forall_mem_cons.mpr ⟨fun kV doc pm an cdv ct us ws hu hw => match us, ws, hu, hw with | [_, _], [], _, _ => rfl, (List.forall_mem_nil _)⟩
theorem bd28 : i28.Bd := List.forall_mem_cons.mpr ⟨fun kV doc pm an cdv ct us ws hu hw => match us, ws, hu, hw with | [_, _], [], _, _ => rfl, (List.forall_mem_nil _)⟩
theorem bd29 : i29.Bd := List.forall_mem_cons.mpr ⟨fun kV doc pm an cdv ct us ws hu hw => match us, ws, hu, hw with | [_, _], [], _, _ => rfl, (List.forall_mem_nil _)⟩
theorem bd30 : i30.Bd := List.forall_mem_cons.mpr ⟨fun kV doc pm an cdv ct us ws hu hw => match us, ws, hu, hw with | [_, _], [], _, _ => rfl, (List.forall_mem_nil _)⟩
theorem bd31 : i31.Bd := List.forall_mem_cons.mpr ⟨fun kV doc pm an cdv ct us ws hu hw => match us, ws, hu, hw with | [_], [], _, _ => rfl, (List.forall_mem_nil _)⟩
theorem bd32 : i32.Bd := List.forall_mem_cons.mpr ⟨fun kV doc pm an cdv ct us ws hu hw => match us, ws, hu, hw with | [_], [], _, _ => rfl, (List.forall_mem_nil _)⟩
theorem bd33 : i33.Bd := List.forall_mem_cons.mpr ⟨fun kV doc pm an cdv ct us ws hu hw => match us, ws, hu, hw with | [_, _], [], _, _ => rfl, (List.forall_mem_nil _)⟩
theorem bd34 : i34.Bd := List.forall_mem_cons.mpr ⟨fun kV doc pm an cdv ct us ws hu hw => match us, ws, hu, hw with | [_, _, _], [], _, _ => rfl, (List.forall_mem_nil _)⟩
theorem bd35 : i35.Bd := List.forall_mem_cons.mpr ⟨fun kV doc pm an cdv ct us ws hu hw => match us, ws, hu, hw with | [_, _, _, _, _], [], _, _ => rfl, (List.forall_mem_nil _)⟩
theorem bd36 : i36.Bd := List.forall_mem_cons.mpr ⟨fun kV doc pm an cdv ct us ws hu hw => match us, ws, hu, hw with | [_], [], _, _ => rfl, (List.forall_mem_nil _)⟩
theorem bd37 : i37.Bd := List.forall_mem_cons.mpr ⟨fun kV doc pm an cdv ct us ws hu hw => match us, ws, hu, hw with | [_], [], _, _ => rfl, (List.forall_mem_nil _)⟩
theorem bd38 : i38.Bd := List.forall_mem_cons.mpr ⟨fun kV doc pm an cdv ct us ws hu hw => match us, ws, hu, hw with | [_, _, _], [], _, _ => rfl, (List.forall_mem_nil _)⟩
theorem bd39 : i39.Bd := List.forall_mem_cons.mpr ⟨fun kV doc pm an cdv ct us ws hu hw => match us, ws, hu, hw with | [_, _], [], _, _ => rfl, (List.forall_mem_nil _)⟩
theorem bd40 : i40.Bd := List.forall_mem_cons.mpr ⟨fun kV doc pm an cdv ct us ws hu hw => match us, ws, hu, hw with | [_, _], [], _, _ => rfl, (List.forall_mem_nil _)⟩
theorem bd41 : i41.Bd := List.forall_mem_cons.mpr ⟨fun kV doc pm an cdv ct us ws hu hw => match us, ws, hu, hw with | [_, _, _], [], _, _ => rfl, (List.forall_mem_nil _)⟩
theorem bd42 : i42.Bd := fun _ h => nomatch h
theorem fb0 : FldI.Bd (flds.getD 0 ⟨"", 0, "", .Pass ⟨0, 0, 0, 0⟩⟩) := fun kV doc pm an cdv ct us hu r hr => by cases hr; exact match us, hu with | [_, _], _ => rfl
theorem ok : t.Ok := ⟨comp, okB, rfl, List.forall_mem_cons.mpr ⟨bd0, List.forall_mem_cons.mpr ⟨bd1, List.forall_mem_cons.mpr ⟨bd2, List.forall_mem_cons.mpr ⟨bd3, List.forall_mem_cons.mpr ⟨bd4, List.forall_mem_cons.mpr ⟨bd5, List.forall_mem_cons.mpr ⟨bd6, List.forall_mem_cons.mpr ⟨bd7, List.forall_mem_cons.mpr ⟨bd8, List.forall_mem_cons.mpr ⟨bd9, List.forall_mem_cons.mpr ⟨bd10, List.forall_mem_cons.mpr ⟨bd11, List.forall_mem_cons.mpr ⟨bd12, List.forall_mem_cons.mpr ⟨bd13, List.forall_mem_cons.mpr ⟨bd14, List.forall_mem_cons.mpr ⟨bd15, List.forall_mem_cons.mpr ⟨bd16, List.forall_mem_cons.mpr ⟨bd17, List.forall_mem_cons.mpr ⟨bd18, List.forall_mem_cons.mpr ⟨bd19, List.forall_mem_cons.mpr ⟨bd20, List.forall_mem_cons.mpr ⟨bd21, List.forall_mem_cons.mpr ⟨bd22, List.forall_mem_cons.mpr ⟨bd23, List.forall_mem_cons.mpr ⟨bd24, List.forall_mem_cons.mpr ⟨bd25, List.forall_mem_cons.mpr ⟨bd26, List.forall_mem_cons.mpr ⟨bd27, List.forall_mem_cons.mpr ⟨bd28, List.forall_mem_cons.mpr ⟨bd29, List.forall_mem_cons.mpr ⟨bd30, List.forall_mem_cons.mpr ⟨bd31, List.forall_mem_cons.mpr ⟨bd32, List.forall_mem_cons.mpr ⟨bd33, List.forall_mem_cons.mpr ⟨bd34, List.forall_mem_cons.mpr ⟨bd35, List.forall_mem_cons.mpr ⟨bd36, List.forall_mem_cons.mpr ⟨bd37, List.forall_mem_cons.mpr ⟨bd38, List.forall_mem_cons.mpr ⟨bd39, List.forall_mem_cons.mpr ⟨bd40, List.forall_mem_cons.mpr ⟨bd41, List.forall_mem_cons.mpr ⟨bd42, (List.forall_mem_nil _)⟩⟩⟩⟩⟩⟩⟩⟩⟩⟩⟩⟩⟩⟩⟩⟩⟩⟩⟩⟩⟩⟩⟩⟩⟩⟩⟩⟩⟩⟩⟩⟩⟩⟩⟩⟩⟩⟩⟩⟩⟩⟩⟩, rfl, by decide +kernel, List.forall_mem_cons.mpr ⟨fb0, (List.forall_mem_nil _)⟩⟩
theorem bLaw (kV doc pm : Value) (an : Option Addr) (cdv ct : Value) (us : List Value) (h : us.length = i42.ps.length) : bindArgs (PySem.W.fnOf i42.name i42.name (defArgs i42.st) (defBody i42.st) (defScope i42.st) .none kV doc pm an cdv ct) ⟨us, []⟩ = pure (i42.ps.zip us) := match us, h with | [_], _ => rfl
def loose : List PySem.Str := (List.append ([("gcd" : PySem.Str), ("lcm" : PySem.Str), ("CompareError" : PySem.Str), ("InvalidCount" : PySem.Str), ("InvalidPlace" : PySem.Str), ("InvalidFormula" : PySem.Str), ("is_integer" : PySem.Str), ("is_from" : PySem.Str), ("is_below" : PySem.Str), ("is_tuple" : PySem.Str), ("check_count" : PySem.Str), ("is_number" : PySem.Str)] : List PySem.Str) (List.append ([("lowest" : PySem.Str), ("plus_in" : PySem.Str), ("minus_in" : PySem.Str), ("over_in" : PySem.Str), ("in_sequence" : PySem.Str), ("ahead" : PySem.Str), ("check_place" : PySem.Str), ("is_term" : PySem.Str), ("term_worth" : PySem.Str), ("together" : PySem.Str), ("middle_in" : PySem.Str), ("candidates" : PySem.Str)] : List PySem.Str) (List.append ([("YES" : PySem.Str), ("is_formula_in" : PySem.Str), ("check_formula" : PySem.Str), ("parts_of" : PySem.Str), ("numbers_in" : PySem.Str), ("true_by" : PySem.Str), ("true_in" : PySem.Str), ("is_true" : PySem.Str), ("_law_pouch" : PySem.Str), ("_law_scoop" : PySem.Str), ("_law_pick" : PySem.Str), ("_law_same" : PySem.Str)] : List PySem.Str) (List.append ([("_law_low" : PySem.Str), ("_law_ahead" : PySem.Str), ("_law_sorted" : PySem.Str), ("_law_number" : PySem.Str), ("_law_constants" : PySem.Str), ("_law_term" : PySem.Str), ("_law_formula" : PySem.Str), ("_law_weight" : PySem.Str), ("_law_numbers" : PySem.Str), ("_law_true" : PySem.Str), ("_law_row" : PySem.Str), ("_law_places" : PySem.Str)] : List PySem.Str) ([("_law_refused" : PySem.Str)] : List PySem.Str)))))
abbrev R : PySem.W.OpenRow := PySem.W.OpenLaw.row PySem.Challenge.rw_onlycompared_k21_truths_by_own_going
abbrev hk : PySem.W.Hook := hookP 4 t
def ob (s : PySem.W.SharedT) : AlP := obsPG 4 t (HandSHeadRun.getT s)
theorem ob_eq (s : PySem.W.SharedT) : ob s = hk.obs s.abs := obsPG_eq (HandSHeadRun.getT_eq s)
theorem run (w : World) : HandSHeadRun.RunEqI R (PySem.W.view R.prog [54]) hk ob 20000 loose w := by
  unfold HandSHeadRun.RunEqI
  kernel_rfl
theorem holds_of (pl : ∀ ns : List Int, ns.length ≤ 63 → LawIs P 200 42 ns) : (PySem.Challenge.rw_onlycompared_k21_truths_by_own_going).Holds := by
  w_on; o_law
  refine HandSHeadRun.head_imp (r := R) (q := PySem.W.view R.prog [54]) (H := hk) (ob := ob) (M := 20000) (loose := loose) (d := HandSHeadRun.topDef R.prog 54) (kwd := []) ob_eq
    run (by kernel_rfl) (by kernel_rfl) (by kernel_rfl) (by rfl) (by first | assumption | decide +kernel) (by decide +kernel) ⟨rfl, rfl, rfl, rfl, rfl, by decide +kernel⟩ ?hw ?hc
  case hw => w_witness2
  case hc =>
    refine LamX.walk_ofTsE (l := PySem.Challenge.rw_onlycompared_k21_truths_by_own_going) (n := 63) (k := 202) (x := "script") (CX := fun _ => L2.CX0) rfl (by decide) (by kernel_rfl) ⟨rfl, by decide, by decide⟩ ?F (fun _ _ _ _ _ z => z)
    intro w mg fa h Y G hmg0
    have hmg : mg ("law" : PySem.Str) = some (.ref fa) := by
      have e : (HandSHeadRun.topDef R.prog 54).name = ("law" : PySem.Str) := by kernel_rfl
      rw [← e]
      exact hmg0
    exact law_F ok (d := i42) (i := 42) rfl rfl rfl bLaw pl Y G hmg
end Lk21

theorem PySem.Challenge.cw_onlycompared_k21_truths_by_own_going_holds : PySem.Challenge.rw_onlycompared_k21_truths_by_own_going.Holds := by
  exact Lk21.holds_of Vk21.plain
