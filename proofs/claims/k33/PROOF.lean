import PyProof.Rows.All
import Wide.All
import OpenK.AllK
import Wide.FinOn
import HandS.ForMost
import HandS.Wide
import HandS.Gcd
import HandS.HeadHook1
import HandS.Zip
import HandS.Defaults
import HandS.IsInst
import KE.KStateDown
import HandS.Head0
import HandS.Head1
import HandS.Head2
import HandS.HeadEnd
import HandS.HeadHook2
import HandS.Iter
import HandS.Dict
import HandS.TupAny
import KE.KDictZip
import HandS.GenList
import HandS.Deep
import HandS.SetFor
import HandS.More
import HandS.RevTup
import HandS.Rev
import HandS.TryOnly
import HandS.TryMany
import HandS.ExcOwn
import PyProof.ExcBaseAll.ValueError
import HandS.Conv
import HandS.Head3
import PySem.Challenge.RW_fairmarks_k33_tables_turned_about
section
set_option linter.all false
set_option maxRecDepth 100000
set_option autoImplicit false
/-! the plain layer: data, slots, what each construct makes of them (no program, no heap) -/
namespace Pl
open PySem

/-- data -/
inductive D where
  | non | bl (b : Bool) | int (i : Int) | str (s : Str)
  | tup (xs : List D) | lst (xs : List D)
  | dk (ks : List (Sum Int Str)) (ds : List D)
  | dt (ks : List (List (Sum Int Str))) (ds : List D)
  | obj (c : Str) (ns : List Str) (ds : List D)
  | tape

inductive Slot where
  | non | val (d : D) | own (d : D)
abbrev AEnv := List Slot
abbrev FE := AEnv → (D → Prop) → Prop
abbrev FEs := AEnv → (List D → Prop) → Prop
abbrev FT := AEnv → (Bool → Prop) → Prop
structure AEnds where
  nx : AEnv → Prop
  rt : D → Prop
  bk : AEnv → Prop := fun _ => False
  ct : AEnv → Prop := fun _ => False
abbrev FS := AEnds → AEnv → Prop
/-- from here on it raises -/
abbrev FX := AEnv → Prop
/-- an operator on data -/
abbrev Op2 := D → D → (D → Prop) → Prop
/-- a function on data -/
abbrev Fn := List D → (D → Prop) → Prop
/-- f(..), or None where it raises -/
def orNone (ψ : List D → Prop) (φ : Fn) : Fn := fun ds Q => (ψ ds ∧ Q .non) ∨ φ ds Q

/-! ### expressions -/
def wVar (i : Nat) : FE := fun env Q => ∃ d, env[i]? = some (.val d) ∧ Q d
def wOwn (i : Nat) : FE := fun env Q => ∃ d, env[i]? = some (.own d) ∧ Q d
def wC (d : D) : FE := fun _ Q => Q d
def wBin (φ : Op2) (fa fb : FE) : FE := fun env Q => fa env fun x => fb env fun y => φ x y Q
def wUn (φ : D → (D → Prop) → Prop) (fa : FE) : FE := fun env Q => fa env fun x => φ x Q
def wNil : FEs := fun _ Q => Q []
def wCons (f : FE) (fs : FEs) : FEs := fun env Q => f env fun x => fs env fun xs => Q (x :: xs)
def wTup (fs : FEs) : FE := fun env Q => fs env fun xs => xs.length ≤ 16777216 ∧ Q (.tup xs)
def wLst (fs : FEs) : FE := fun env Q => fs env fun xs => xs.length ≤ 16777216 ∧ Q (.lst xs)
def wCall (φ : Fn) (fs : FEs) : FE := fun env Q => fs env fun xs => φ xs Q
def dBool (d : D) (Q : Bool → Prop) : Prop := match d with
  | .bl b => Q b
  | _ => False
def wAndV (fa fb : FE) : FE := fun env Q => fa env fun x => dBool x fun c => if c = true then fb env Q else Q (.bl false)
def wOrV (fa fb : FE) : FE := fun env Q => fa env fun x => dBool x fun c => if c = true then Q (.bl true) else fb env Q
def wNotV (fa : FE) : FE := fun env Q => fa env fun x => dBool x fun c => Q (.bl !c)
def wIf (t : FT) (fa fb : FE) : FE := fun env Q => t env fun b => if b = true then fa env Q else fb env Q
/-- a chain a < b < c -/
def wChain (φ ψ : Op2) (fa fb fc : FE) : FE := fun env Q => fa env fun x => fb env fun y => φ x y fun z => dBool z fun k => if k = true then fc env fun w => ψ y w Q else Q (.bl false)
/-! ### tests -/
def wTest (f : FE) : FT := fun env Q => f env fun x => dBool x Q
def wAnd (t u : FT) : FT := fun env Q => t env fun c => if c = true then u env Q else Q false
def wOr (t u : FT) : FT := fun env Q => t env fun c => if c = true then Q true else u env Q
def wNot (t : FT) : FT := fun env Q => t env fun c => Q (!c)
/-! ### targets -/
inductive Tgt where
  | name (i : Nat)
  | tup (is : List Nat)
def setAll : List Nat → List D → AEnv → Option AEnv
  | [], [], env => some env
  | i :: is, d :: ds, env => setAll is ds (env.set i (.val d))
  | _, _, _ => none
def bindT (t : Tgt) (d : D) (env : AEnv) : Option AEnv := match t, d with
  | .name i, d => some (env.set i (.val d))
  | .tup is, .tup ds => setAll is ds env
  | _, _ => none
def Tgt.slots : Tgt → List Nat
  | .name i => [i]
  | .tup is => is
def wBind (t : Tgt) (d : D) (env : AEnv) (Q : AEnv → Prop) : Prop := ∃ e, bindT t d env = some e ∧ Q e
/-! ### comprehensions -/
def wipeE (env : AEnv) : List Nat → AEnv
  | [] => env
  | v :: vs => (wipeE env vs).set v .non
def wYes : FT := fun _ Q => Q true
def wComp (t : Tgt) (c : FT) (f : FE) (env : AEnv) : List D → List D → (D → Prop) → Prop
  | [], acc, Q => Q (.lst acc)
  | d :: ds, acc, Q => wBind t d env fun e => c e fun b => if b = true then f e fun y => acc.length < 16777216 ∧ wComp t c f env ds (acc ++ [y]) Q else wComp t c f env ds acc Q
/-- vs: the comprehension's own places -/
def wLc (fi : FEs) (t : Tgt) (c : FT) (f : FE) (vs : List Nat) : FE := fun env Q => fi env fun ds => wComp t c f (wipeE env vs) ds [] Q
/-- the place of an index, of any sign -/
def ixD (n : Nat) (i : Int) : Option Nat := if 0 ≤ i then (if i < n then some i.toNat else none) else if -(n : Int) ≤ i then some (i + n).toNat else none
/-! ### statements -/
def wSeq (F G : FS) : FS := fun A env => F { A with nx := G A } env
def wNext : FS := fun A env => A.nx env
def wSet (i : Nat) (f : FE) : FS := fun A env => f env fun d => A.nx (env.set i (.val d))
def wSetO (i : Nat) (f : FE) : FS := fun A env => f env fun d => A.nx (env.set i (.own d))
def wAsg (t : Tgt) (f : FE) : FS := fun A env => f env fun d => wBind t d env A.nx
def wFrz (i : Nat) : FS := fun A env => ∃ d, env[i]? = some (.own d) ∧ A.nx (env.set i (.val d))
def wRet (f : FE) : FS := fun A env => f env A.rt
def wRetN : FS := fun A _ => A.rt .non
def wDrop (f : FE) : FS := fun A env => f env fun _ => A.nx env
def wIfS (t : FT) (F G : FS) : FS := fun A env => t env fun b => if b = true then F A env else G A env
def wNever : FS := fun _ _ => False
def wBreak : FS := fun A env => A.bk env
def wCont : FS := fun A env => A.ct env
def wForL (t : Tgt) (F : FS) : List D → FS
  | [], A, env => A.nx env
  | d :: ds, A, env => wBind t d env fun e => F { A with nx := wForL t F ds A, ct := wForL t F ds A, bk := A.nx } e
def wFor (t : Tgt) (fi : FEs) (F : FS) : FS := fun A env => fi env fun ds => wForL t F ds A env
def wWhileN (c : FT) (F : FS) : Nat → FS
  | 0, _, _ => False
  | n + 1, A, env => c env fun b => if b = true then F { A with nx := wWhileN c F n A, ct := wWhileN c F n A, bk := A.nx } env else A.nx env
def wWhile (c : FT) (F : FS) : FS := fun A env => ∃ n, wWhileN c F n A env
/-- name op= e -/
def wAug (i : Nat) (φ : Op2) (f : FE) : FS := fun A env => ∃ d, env[i]? = some (.val d) ∧ f env fun x => φ d x fun z => A.nx (env.set i (.val z))
/-- a method that changes an own list: what it holds, the arguments, the wish of its answer and of what it holds then -/
abbrev MutL := List D → List D → (D → List D → Prop) → Prop
def wMut (i : Nat) (φ : MutL) (fs : FEs) : FS := fun A env => ∃ ds, env[i]? = some (.own (.lst ds)) ∧ fs env fun xs => φ ds xs fun _ ds' => A.nx (env.set i (.own (.lst ds')))
/-- x = own.m(..) -/
def wMutSet (j i : Nat) (φ : MutL) (fs : FEs) : FS := fun A env => ∃ ds, env[i]? = some (.own (.lst ds)) ∧ fs env fun xs => φ ds xs fun r ds' => A.nx ((env.set i (.own (.lst ds'))).set j (.val r))
/-- own[k] = e: the value first -/
def wPut (i : Nat) (fk fe : FE) : FS := fun A env => ∃ ds, env[i]? = some (.own (.lst ds)) ∧ fe env fun x => fk env fun k => match k with
  | .int n => ∃ j, ixD ds.length n = some j ∧ A.nx (env.set i (.own (.lst (ds.set j x))))
  | _ => False

/-! ### operators on data -/
def dInt2 (C : Int → Int → Prop) (g : Int → Int → D) : Op2 := fun x y Q => match x, y with
  | .int i, .int j => C i j ∧ Q (g i j)
  | _, _ => False
def dSub : Op2 := dInt2 (fun _ _ => True) fun i j => .int (i - j)
/-- a bool minus a bool -/
def dSubB : Op2 := fun x y Q => match x, y with
  | .bl a, .bl b => Q (.int ((if a = true then 1 else 0) - (if b = true then 1 else 0)))
  | _, _ => False
/-- together below a million bits -/
def CM (i j : Int) : Prop := (-(2 ^ 64) < i ∧ i < 2 ^ 64) ∨ (-(2 ^ 64) < j ∧ j < 2 ^ 64) ∨ i.natAbs.log2 + j.natAbs.log2 < 1000000
/-- a divisor above 0, below 9000 bits -/
def CD (_ j : Int) : Prop := 0 < j ∧ j.natAbs.log2 < 9000
def dFdiv : Op2 := dInt2 CD fun i j => .int (i / j)
def dMod : Op2 := dInt2 (fun _ j => 0 < j) fun i j => .int (i % j)
def dLt : Op2 := dInt2 (fun _ _ => True) fun i j => .bl (decide (i < j))
def dLe : Op2 := dInt2 (fun _ _ => True) fun i j => .bl (decide (i ≤ j))
def dGt : Op2 := dInt2 (fun _ _ => True) fun i j => .bl (decide (j < i))
def dGe : Op2 := dInt2 (fun _ _ => True) fun i j => .bl (decide (j ≤ i))
def dPow : Op2 := dInt2 (fun i j => 0 ≤ j ∧ j ≤ 1000000 ∧ i.natAbs < 2 ^ 64) fun i j => .int (i ^ j.toNat)
def dXor : Op2 := fun x y Q => match x, y with
  | .int i, .int 1 => 0 ≤ i ∧ Q (.int (if i % 2 = 0 then i + 1 else i - 1))
  | _, _ => False
def dNeg : D → (D → Prop) → Prop := fun x Q => match x with
  | .int i => Q (.int (-i))
  | _ => False
def b2i (b : Bool) : Int := if b then 1 else 0
/-- + -/
def dAdd : Op2 := fun x y Q => match x, y with
  | .int i, .int j => Q (.int (i + j))
  | .str s, .str t => s.length + t.length ≤ 16777216 ∧ Q (.str (s ++ t))
  | .lst a, .lst b => a.length + b.length ≤ 16777216 ∧ Q (.lst (a ++ b))
  | .tup a, .tup b => a ≠ [] ∧ a.length + b.length ≤ 16777216 ∧ Q (.tup (a ++ b))
  | _, _ => False
/-- * -/
def dMul : Op2 := fun x y Q => match x, y with
  | .int i, .int j => CM i j ∧ Q (.int (i * j))
  | .lst a, .int k => (-(2 ^ 63) ≤ k ∧ k < 2 ^ 63 ∧ a.length * k.toNat ≤ 16777216) ∧ Q (.lst (List.replicate k.toNat a).flatten)
  | _, _ => False
mutual
def deq : D → D → Bool
  | .non, .non => true
  | .bl a, .bl b => a == b
  | .bl a, .int j => (if a then 1 else 0) == j
  | .int i, .bl b => i == (if b then 1 else 0)
  | .int i, .int j => i == j
  | .str x, .str y => x == y
  | .lst xs, .lst ys => deqs xs ys
  | .tup xs, .tup ys => deqs xs ys
  | _, _ => false
def deqs : List D → List D → Bool
  | [], [] => true
  | x :: xs, y :: ys => deq x y && deqs xs ys
  | _, _ => false
end
def okStr (s : Str) : Bool := s.cps.all (· < 0x110000)
mutual
/-- flat data, tuples and lists of such, no deeper than n -/
def plain : Nat → D → Bool
  | _, .non => true
  | _, .bl _ => true
  | _, .int _ => true
  | _, .str s => okStr s
  | n + 1, .lst xs => plains n xs
  | n + 1, .tup xs => plains n xs
  | _, _ => false
def plains : Nat → List D → Bool
  | _, [] => true
  | n, x :: xs => plain n x && plains n xs
end
def dEq : Op2 := fun x y Q => plain 20 x = true ∧ plain 20 y = true ∧ Q (.bl (deq x y))
def dNe : Op2 := fun x y Q => plain 20 x = true ∧ plain 20 y = true ∧ Q (.bl !(deq x y))
def isNon : D → Bool
  | .non => true
  | _ => false
def dIsN : Op2 := fun x y Q => match y with
  | .non => Q (.bl (isNon x))
  | _ => False
def dNotN : Op2 := fun x y Q => match y with
  | .non => Q (.bl !(isNon x))
  | _ => False
def dIx : Op2 := fun x y Q => match x, y with
  | .lst xs, .int i => ∃ d, ((ixD xs.length i).bind fun j => xs[j]?) = some d ∧ Q d
  | .tup xs, .int i => ∃ d, ((ixD xs.length i).bind fun j => xs[j]?) = some d ∧ Q d
  | _, _ => False
def flatD : D → Bool
  | .non => true
  | .bl _ => true
  | .int _ => true
  | .str _ => true
  | _ => false
def dIn : Op2 := fun x y Q => match y with
  | .lst ys => flatD x = true ∧ ys.all flatD = true ∧ Q (.bl (ys.any fun y => deq y x))
  | .tup ys => flatD x = true ∧ ys.all flatD = true ∧ Q (.bl (ys.any fun y => deq y x))
  | _ => False
def dNotIn : Op2 := fun x y Q => match y with
  | .lst ys => flatD x = true ∧ ys.all flatD = true ∧ Q (.bl !(ys.any fun y => deq y x))
  | .tup ys => flatD x = true ∧ ys.all flatD = true ∧ Q (.bl !(ys.any fun y => deq y x))
  | _ => False
/-! ### built-ins on data -/
def bLen : Fn := fun xs Q => match xs with
  | [.lst a] => Q (.int a.length)
  | [.tup a] => Q (.int a.length)
  | [.str s] => s.length ≤ 16777216 ∧ Q (.int s.length)
  | _ => False
def bAbs : Fn := fun xs Q => match xs with
  | [.int i] => Q (.int i.natAbs)
  | _ => False
def bMax2 : Fn := fun xs Q => match xs with
  | [.int i, .int j] => Q (.int (max i j))
  | _ => False
def bMin2 : Fn := fun xs Q => match xs with
  | [.int i, .int j] => Q (.int (min i j))
  | _ => False
def bInt : Fn := fun xs Q => match xs with
  | [.int i] => Q (.int i)
  | [.bl b] => Q (.int (b2i b))
  | _ => False
def bGcd : Fn := fun xs Q => match xs with
  | [.int i, .int j] => Q (.int (Nat.gcd i.natAbs j.natAbs))
  | _ => False
def bList : Fn := fun xs Q => match xs with
  | [.lst a] => Q (.lst a)
  | [.tup a] => Q (.lst a)
  | _ => False
def bTuple : Fn := fun xs Q => match xs with
  | [.lst a] => Q (.tup a)
  | [.tup a] => Q (.tup a)
  | _ => False
def intsD : List D → Option (List Int)
  | [] => some []
  | .int i :: xs => (intsD xs).map (i :: ·)
  | _ => none
def boolsD : List D → Option (List Bool)
  | [] => some []
  | .bl b :: xs => (boolsD xs).map (b :: ·)
  | _ => none
def bSum : Fn := fun xs Q => match xs with
  | [.lst a] => ∃ ns, intsD a = some ns ∧ Q (.int ns.sum)
  | _ => False
def bAll : Fn := fun xs Q => match xs with
  | [.lst a] => ∃ bs, boolsD a = some bs ∧ Q (.bl (bs.all id))
  | _ => False
def bAny : Fn := fun xs Q => match xs with
  | [.lst a] => ∃ bs, boolsD a = some bs ∧ Q (.bl (bs.any id))
  | _ => False
/-! ### sets made from lists, places, counts -/
def addK {α : Type} [DecidableEq α] (σ : List α) (k : α) : List α := if k ∈ σ then σ else σ ++ [k]
/-- each once, as met first -/
def setK {α : Type} [DecidableEq α] (ks : List α) : List α := ks.foldl addK []
def strsD : List D → Option (List Str)
  | [] => some []
  | .str i :: xs => (strsD xs).map (i :: ·)
  | _ => none
def dedLen (a : List D) : Option Nat := match intsD a with
  | some ns => some (setK ns).length
  | none => (strsD a).map fun ns => (setK ns).length
/-- len(set(xs)), ints or texts -/
def wLenSet (f : FE) : FE := fun env Q => f env fun x => match x with
  | .lst a => a.length ≤ 1000 ∧ ∃ n : Nat, dedLen a = some n ∧ Q (.int n)
  | _ => False
/-- sorted(set(xs)), few ints -/
def wSortedSet (f : FE) : FE := fun env Q => f env fun x => match x with
  | .lst a => a.length ≤ 60 ∧ ∃ ns, intsD a = some ns ∧ ∀ us : List Int, us.Pairwise (· < ·) → (∀ k, k ∈ us ↔ k ∈ ns) → Q (.lst (us.map .int))
  | _ => False
/-- list(reversed(xs)) -/
def wListRev (f : FE) : FE := fun env Q => f env fun x => match x with
  | .lst a => Q (.lst a.reverse)
  | _ => False
/-- a chain a < b < c < d -/
def wChain3 (φ ψ χ : Op2) (fa fb fc fd : FE) : FE := fun env Q => fa env fun x => fb env fun y => φ x y fun z => dBool z fun k => if k = true then fc env fun w => ψ y w fun z2 => dBool z2 fun k2 => if k2 = true then fd env fun v => χ w v Q else Q (.bl false) else Q (.bl false)
/-- a method of a list that changes nothing -/
def wLm (φ : Fn) (f : FE) (fs : FEs) : FE := fun env Q => f env fun x => match x with
  | .lst a => fs env fun xs => φ (.lst a :: xs) Q
  | _ => False
def bIndex : Fn := fun xs Q => match xs with
  | [.lst a, y] => flatD y = true ∧ a.all flatD = true ∧ ∃ j : Nat, a.findIdx? (fun z => deq z y) = some j ∧ Q (.int j)
  | _ => False
def bCount : Fn := fun xs Q => match xs with
  | [.lst a, y] => flatD y = true ∧ a.all flatD = true ∧ Q (.int (a.countP fun z => deq z y : Nat))
  | _ => False
/-! ### slices -/
def sIxD (n d : Nat) : Option Int → Nat
  | none => d
  | some i => if i < 0 then (i + n).toNat else min i.toNat n
def cutD (xs : List D) (lo hi : Option Int) : List D := (xs.drop (sIxD xs.length 0 lo)).take (sIxD xs.length xs.length hi - sIxD xs.length 0 lo)
abbrev FO := AEnv → (Option Int → Prop) → Prop
def wNoP : FO := fun _ Q => Q none
def wP (f : FE) : FO := fun env Q => f env fun x => match x with
  | .int i => Q (some i)
  | _ => False
def wSlice (f : FE) (fl fh : FO) : FE := fun env Q => f env fun x => fl env fun l => fh env fun h => match x with
  | .lst xs => Q (.lst (cutD xs l h))
  | _ => False
/-- a slice of a tuple -/
def wSliceT (f : FE) (fl fh : FO) : FE := fun env Q => f env fun x => fl env fun l => fh env fun h => match x with
  | .lst xs => Q (.lst (cutD xs l h))
  | .tup xs => Q (.tup (cutD xs l h))
  | _ => False
/-! ### what is walked -/
def wItems (f : FE) : FEs := fun env Q => f env fun x => match x with
  | .lst xs => Q xs
  | .tup xs => Q xs
  | _ => False
def rngD (lo : Int) (n : Nat) : List D := (List.range n).map fun (k : Nat) => D.int (lo + (k : Int))
def wRng1 (fs : FEs) : FEs := fun env Q => fs env fun xs => match xs with
  | [.int j] => (-(2 ^ 62) ≤ j ∧ j < 2 ^ 62) ∧ Q (rngD 0 j.toNat)
  | _ => False
def wRng2 (fs : FEs) : FEs := fun env Q => fs env fun xs => match xs with
  | [.int i, .int j] => (-(2 ^ 62) ≤ i ∧ i < 2 ^ 62 ∧ -(2 ^ 62) ≤ j ∧ j < 2 ^ 62) ∧ Q (rngD i (j - i).toNat)
  | _ => False
def rngDn (hi : Int) (n : Nat) : List D := (List.range n).map fun (k : Nat) => D.int (hi - (k : Int))
/-- range(i, j, -1) -/
def wRngDown (fs : FEs) : FEs := fun env Q => fs env fun xs => match xs with
  | [.int i, .int j, .int (-1)] => (-(2 ^ 62) ≤ i ∧ i < 2 ^ 62 ∧ -(2 ^ 62) ≤ j ∧ j < 2 ^ 62) ∧ Q (rngDn i (i - j).toNat)
  | _ => False
def zipD (a b : List D) : List D := a.zipWith (fun x y => .tup [x, y]) b
def wZip (fs : FEs) : FEs := fun env Q => fs env fun xs => match xs with
  | [.lst a, .lst b] => Q (zipD a b)
  | [.tup a, .tup b] => Q (zipD a b)
  | _ => False
/-- list(zip(a, b)) -/
def wListZip (fs : FEs) : FE := fun env Q => fs env fun xs => match xs with
  | [.lst a, .lst b] => Q (.lst (zipD a b))
  | _ => False
def enumD (a : List D) : List D := a.mapIdx fun i x => .tup [.int i, x]
def wEnum (fs : FEs) : FEs := fun env Q => fs env fun xs => match xs with
  | [.lst a] => Q (enumD a)
  | _ => False
def wRev (fs : FEs) : FEs := fun env Q => fs env fun xs => match xs with
  | [.lst a] => Q a.reverse
  | _ => False
/-! ### changes of own lists -/
def mAppend : MutL := fun a xs Q => match xs with
  | [x] => a.length < 16777216 ∧ Q .non (a ++ [x])
  | _ => False
def mInsert : MutL := fun a xs Q => match xs with
  | [.int i, x] => 0 ≤ i ∧ i < 2 ^ 62 ∧ a.length < 16777216 ∧ Q .non (a.take i.toNat ++ [x] ++ a.drop i.toNat)
  | _ => False
def mExtend : MutL := fun a xs Q => match xs with
  | [.lst b] => a.length + b.length ≤ 16777216 ∧ Q .non (a ++ b)
  | _ => False
def mPopAt : MutL := fun a xs Q => match xs with
  | [.int i] => (-(2 ^ 63) ≤ i ∧ i < 2 ^ 63) ∧ ∃ j x, ixD a.length i = some j ∧ a[j]? = some x ∧ Q x (a.eraseIdx j)
  | _ => False
/-! ### isinstance -/
def tyName : D → Option String
  | .non => some "NoneType"
  | .bl _ => some "bool"
  | .int _ => some "int"
  | .str _ => some "str"
  | .tup _ => some "tuple"
  | .lst _ => some "list"
  | .dk _ _ => some "dict"
  | .dt _ _ => some "dict"
  | _ => none
/-- T: one of bool, int, str, tuple, list -/
def wIsi (T : String) (f : FE) : FE := fun env Q => f env fun x => match tyName x with
  | some t => Q (.bl (decide (t = T) || (decide (t = "bool") && decide (T = "int"))))
  | none => False
/-! ### several names at once -/
def wPar (is : List Nat) (fs : FEs) : FS := fun A env => fs env fun ds => ∃ e, setAll is ds env = some e ∧ A.nx e
/-- a, b, c = x, y, a new list -/
def wPar3O (i j l : Nat) (fa fb fc : FE) : FS := fun A env => fa env fun x => fb env fun y => fc env fun z => A.nx (((env.set i (.val x)).set j (.val y)).set l (.own z))
/-! ### objects that don't change -/
def fLook (f : Str) : List Str → List D → Option D
  | n :: ns, d :: ds => if f = n then some d else fLook f ns ds
  | _, _ => none
def dFld (c x : Str) (o : D) (Q : D → Prop) : Prop := match o with
  | .obj c' ns ds => c' = c ∧ ∃ d, fLook x ns ds = some d ∧ Q d
  | _ => False
def wFld (f : FE) (c x : Str) : FE := fun env Q => f env fun o => dFld c x o Q
/-! ### dicts with keys ints and texts -/
def keyD : D → Option (Sum Int Str)
  | .int i => some (.inl i)
  | .str s => some (.inr s)
  | _ => none
def kLook (k : Sum Int Str) : List (Sum Int Str) → List D → Option D
  | n :: ns, d :: ds => if n = k then some d else kLook k ns ds
  | _, _ => none
/-- {k: e, ..}, the keys written -/
def wDict (ks : List (Sum Int Str)) (fs : FEs) : FE := fun env Q => fs env fun xs => Q (.dk ks xs)
/-- d[k] -/
def dGet : Op2 := fun x y Q => match x with
  | .dk ks ds => ∃ k d, keyD y = some k ∧ kLook k ks ds = some d ∧ Q d
  | _ => False
/-- self.f = e in a new object -/
def wSetF (c : Str) (i : Nat) (f : Str) (fe : FE) : FS := fun A env => fe env fun x => ∃ ns ds, env[i]? = some (.own (.obj c ns ds)) ∧ ns.contains f = false ∧ ns.length < 1000 ∧ A.nx (env.set i (.own (.obj c (ns ++ [f]) (ds ++ [x]))))
/-- an object of class c whose fields are not named m -/
def okM (c m : Str) : D → Prop
  | .obj c' ns _ => c' = c ∧ ns.contains m = false
  | _ => False
/-- o.m(..) -/
def wMeth (c m : Str) (φ : Fn) (fo : FE) (fs : FEs) : FE := fun env Q => fo env fun o => okM c m o ∧ fs env fun xs => φ (o :: xs) Q
/-- C(..) -/
def wMake (φ : Fn) (fs : FEs) : FE := wCall φ fs
/-! ### a def's start, a law's end -/
/-- the start of __init__ -/
def startI (n : Nat) (c : Str) (ds : List D) : AEnv := .own (.obj c [] []) :: (ds.map .val ++ List.replicate (n - 1 - ds.length) .non)
/-- what __init__ is to reach: the object as it stands in slot 0 -/
def AEnds.ini (Q : D → Prop) : AEnds := { nx := fun env => ∃ c ns ds, env[0]? = some (.own (.obj c ns ds)) ∧ Q (.obj c ns ds), rt := fun _ => False }
def startE (n : Nat) (ds : List D) : AEnv := ds.map .val ++ List.replicate (n - ds.length) .non
/-- what the law's body is to reach -/
def AEnds.law : AEnds := { nx := fun _ => False, rt := fun d => d = .bl true }
def AEnds.fn (Q : D → Prop) : AEnds := { nx := fun _ => Q .non, rt := Q }
end Pl
end

section
set_option Elab.async false
set_option linter.all false
set_option maxRecDepth 100000
set_option maxHeartbeats 1000000
set_option autoImplicit false
/-! the plain layer: values as data, own lists as slots; by hand over HandS -/
namespace Pl
open PySem PySem.Spec PyProof.Rows L2

/-- a written tuple -/
def WrT (K : PySem.W.Frag) (a : Addr) (xs : List V) : Prop := SqT K (fun _ => none) a xs
theorem WrT.sq {K : PySem.W.Frag} {H : Hp} {a : Addr} {xs : List V} (h : WrT K a xs) : SqT K H a xs := by
  rcases h with (h | ⟨o, h⟩) | h
  · cases h
  · cases h
  · exact .inr h

/-- the tape's address, and that of its cells -/
structure Tp where
  t : Addr
  c : Addr
  me : Addr := 0
  on : Bool := false
mutual
inductive Rep (K : PySem.W.Frag) (T : Tp) (M : Addr → Prop) (H : Hp) : V → D → Prop
  | non : Rep K T M H .non .non
  | bl (b : Bool) : Rep K T M H (.bl b) (.bl b)
  | int (i : Int) : Rep K T M H (.int i) (.int i)
  | str (s : Str) : Rep K T M H (.str s) (.str s)
  | tup {a : Addr} {vs : List V} {ds : List D} : H a = some (.tup vs) → ¬ M a → Reps K T M H vs ds → Rep K T M H (.ref a) (.tup ds)
  | wtup {a : Addr} {vs : List V} {ds : List D} : WrT K a vs → Reps K T M H vs ds → Rep K T M H (.ref a) (.tup ds)
  | lst {a : Addr} {vs : List V} {ds : List D} : H a = some (.lst vs) → ¬ M a → Reps K T M H vs ds → Rep K T M H (.ref a) (.lst ds)
  | dk {a : Addr} {ks : List Key} {vs : List V} {ds : List D} : H a = some (.dK (ks.zip vs)) → ¬ M a → ks.length = vs.length → Reps K T M H vs ds → Rep K T M H (.ref a) (.dk ks ds)
  | dt {a : Addr} {ks : List (List Key)} {vs : List V} {ds : List D} : H a = some (.dT (ks.zip vs)) → ¬ M a → ks.length = vs.length → Reps K T M H vs ds → Rep K T M H (.ref a) (.dt ks ds)
  | obj {a C dx : Addr} {c : Str} {ns : List Str} {vs : List V} {ds : List D} : H a = some (.ins C dx (ns.zip vs)) → C = He.ga K c → ¬ M a → ns.length = vs.length → Reps K T M H vs ds → Rep K T M H (.ref a) (.obj c ns ds)
  | tape : Rep K T M H (.ref T.t) .tape
inductive Reps (K : PySem.W.Frag) (T : Tp) (M : Addr → Prop) (H : Hp) : List V → List D → Prop
  | nil : Reps K T M H [] []
  | cons {v : V} {vs : List V} {d : D} {ds : List D} : Rep K T M H v d → Reps K T M H vs ds → Reps K T M H (v :: vs) (d :: ds)
end

section
variable {K : PySem.W.Frag} {T : Tp} {M M' : Addr → Prop} {H H' : Hp}
mutual
theorem Rep.keep (hM : ∀ a, H a ≠ none → M' a → M a) (hk : ∀ a o, ¬ M a → H a = some o → H' a = some o) : ∀ (d : D) (v : V), Rep K T M H v d → Rep K T M' H' v d
  | .non, _, h => by cases h; exact .non
  | .bl b, _, h => by cases h; exact .bl b
  | .int i, _, h => by cases h; exact .int i
  | .str s, _, h => by cases h; exact .str s
  | .tape, _, h => by cases h; exact .tape
  | .tup ds, _, h => by
    cases h with
    | tup h1 h2 h3 => exact .tup (hk _ _ h2 h1) (fun z => h2 (hM _ (by rw [h1]; simp) z)) (Reps.keep hM hk ds _ h3)
    | wtup h1 h3 => exact .wtup h1 (Reps.keep hM hk ds _ h3)
  | .lst ds, _, h => by
    cases h with
    | lst h1 h2 h3 => exact .lst (hk _ _ h2 h1) (fun z => h2 (hM _ (by rw [h1]; simp) z)) (Reps.keep hM hk ds _ h3)
  | .dk ks ds, _, h => by
    cases h with
    | dk h1 h2 hl h3 => exact .dk (hk _ _ h2 h1) (fun z => h2 (hM _ (by rw [h1]; simp) z)) hl (Reps.keep hM hk ds _ h3)
  | .dt ks ds, _, h => by
    cases h with
    | dt h1 h2 hl h3 => exact .dt (hk _ _ h2 h1) (fun z => h2 (hM _ (by rw [h1]; simp) z)) hl (Reps.keep hM hk ds _ h3)
  | .obj c ns ds, _, h => by
    cases h with
    | obj h1 hc h2 hl h3 => exact .obj (hk _ _ h2 h1) hc (fun z => h2 (hM _ (by rw [h1]; simp) z)) hl (Reps.keep hM hk ds _ h3)
theorem Reps.keep (hM : ∀ a, H a ≠ none → M' a → M a) (hk : ∀ a o, ¬ M a → H a = some o → H' a = some o) : ∀ (ds : List D) (vs : List V), Reps K T M H vs ds → Reps K T M' H' vs ds
  | [], _, h => by cases h; exact .nil
  | d :: ds, _, h => by
    cases h with
    | cons h1 h2 => exact .cons (Rep.keep hM hk d _ h1) (Reps.keep hM hk ds _ h2)
end
theorem Reps.length : ∀ {ds : List D} {vs : List V}, Reps K T M H vs ds → vs.length = ds.length
  | _, _, .nil => rfl
  | _, _, .cons _ t => congrArg Nat.succ (Reps.length t)
theorem Reps.append : ∀ {ds es : List D} {vs us : List V}, Reps K T M H vs ds → Reps K T M H us es → Reps K T M H (vs ++ us) (ds ++ es)
  | _, _, _, _, .nil, s => s
  | _, _, _, _, .cons r t, s => .cons r (Reps.append t s)
theorem Reps.get : ∀ {ds : List D} {vs : List V} {i : Nat} {d : D}, Reps K T M H vs ds → ds[i]? = some d → ∃ v, vs[i]? = some v ∧ Rep K T M H v d
  | _, _, _, _, .nil, e => by simp at e
  | _, _, 0, _, .cons r _, e => by simp at e; subst e; exact ⟨_, rfl, r⟩
  | _, _, i + 1, d, .cons _ t, e => by
    obtain ⟨u, h1, h2⟩ := Reps.get (i := i) (d := d) t (by simpa using e)
    exact ⟨u, by simpa using h1, h2⟩
theorem Reps.get' : ∀ {ds : List D} {vs : List V} {i : Nat} {v : V}, Reps K T M H vs ds → vs[i]? = some v → ∃ d, ds[i]? = some d ∧ Rep K T M H v d
  | _, _, _, _, .nil, e => by simp at e
  | _, _, 0, _, .cons r _, e => by simp at e; subst e; exact ⟨_, rfl, r⟩
  | _, _, i + 1, d, .cons _ t, e => by
    obtain ⟨u, h1, h2⟩ := Reps.get' (i := i) (v := d) t (by simpa using e)
    exact ⟨u, by simpa using h1, h2⟩
theorem Reps.take : ∀ (n : Nat) {ds : List D} {vs : List V}, Reps K T M H vs ds → Reps K T M H (vs.take n) (ds.take n)
  | 0, _, _, _ => by simpa using Reps.nil
  | _ + 1, _, _, .nil => by simpa using Reps.nil
  | n + 1, _, _, .cons r t => by simpa using Reps.cons r (Reps.take n t)
theorem Reps.drop : ∀ (n : Nat) {ds : List D} {vs : List V}, Reps K T M H vs ds → Reps K T M H (vs.drop n) (ds.drop n)
  | 0, _, _, h => by simpa using h
  | _ + 1, _, _, .nil => by simpa using Reps.nil
  | n + 1, _, _, .cons r t => by simpa using Reps.drop n t
theorem Reps.set : ∀ (n : Nat) {ds : List D} {vs : List V} {d : D} {v : V}, Reps K T M H vs ds → Rep K T M H v d → Reps K T M H (vs.set n v) (ds.set n d)
  | _, _, _, _, _, .nil, _ => by simpa using Reps.nil
  | 0, _, _, _, _, .cons _ t, r => by simpa using Reps.cons r t
  | n + 1, _, _, _, _, .cons q t, r => by simpa using Reps.cons q (Reps.set n t r)
theorem Reps.reverse : ∀ {ds : List D} {vs : List V}, Reps K T M H vs ds → Reps K T M H vs.reverse ds.reverse
  | _, _, .nil => by simpa using Reps.nil
  | _, _, .cons r t => by simpa using (Reps.reverse t).append (.cons r .nil)
theorem Reps.eraseIdx : ∀ (n : Nat) {ds : List D} {vs : List V}, Reps K T M H vs ds → Reps K T M H (vs.eraseIdx n) (ds.eraseIdx n)
  | _, _, _, .nil => by simpa using Reps.nil
  | 0, _, _, .cons _ t => by simpa using t
  | n + 1, _, _, .cons q t => by simpa using Reps.cons q (Reps.eraseIdx n t)
theorem Reps.rep {ds : List D} {vs : List V} (h : Reps K T M H vs ds) : ∀ k : Nat, Reps K T M H (List.replicate k vs).flatten (List.replicate k ds).flatten
  | 0 => by simpa using Reps.nil
  | k + 1 => by simpa [List.replicate_succ] using h.append (Reps.rep h k)
end

/-- the tape of a law: its cells, a count, what is left, a mix -/
def TapeOk (K : PySem.W.Frag) (M : Addr → Prop) (H : Hp) (T : Tp) : Prop :=
  ∃ (k acc mix : Int) (cells : List Int), H T.t = some (.lst [.ref T.c, .int k, .int acc, .int mix]) ∧ H T.c = some (.lst (cells.map V.int)) ∧ ¬ M T.c ∧ 0 ≤ k ∧ 0 ≤ acc ∧ 0 ≤ mix

/-- what an expression may do: new objects, and draws -/
structure Grow (K : PySem.W.Frag) (T : Tp) (M : Addr → Prop) (H H' : Hp) : Prop where
  keep : ∀ a o, a ≠ T.t → H a = some o → H' a = some o
  tape : TapeOk K M H' T
/-- a good heap for T, M -/
structure Wd (K : PySem.W.Frag) (T : Tp) (M : Addr → Prop) (H : Hp) : Prop where
  tape : TapeOk K M H T
  mT : M T.t
  md : ∀ a, M a → H a ≠ none
section
variable {K : PySem.W.Frag} {T : Tp} {M M' : Addr → Prop} {H H1 H2 H' : Hp} {p : Addr} {o : HO}
theorem Grow.refl (w : Wd K T M H) : Grow K T M H H := ⟨fun _ _ _ h => h, w.tape⟩
theorem Grow.trans (a : Grow K T M H H1) (b : Grow K T M H1 H2) : Grow K T M H H2 := ⟨fun x o n h => b.keep x o n (a.keep x o n h), b.tape⟩
theorem TapeOk.ne (t : TapeOk K M H T) : H T.t ≠ none := by
  obtain ⟨k, acc, mix, cells, h, _⟩ := t
  rw [h]; simp
theorem Wd.grow (w : Wd K T M H) (g : Grow K T M H H') : Wd K T M H' := ⟨g.tape, w.mT, fun a h => by
  by_cases e : a = T.t
  · subst e; exact g.tape.ne
  · cases q : H a with
    | none => exact absurd q (w.md a h)
    | some o => rw [g.keep a o e q]; simp⟩
theorem Wd.rep (w : Wd K T M H) (g : Grow K T M H H') {d : D} {v : V} (r : Rep K T M H v d) : Rep K T M H' v d :=
  Rep.keep (fun _ _ z => z) (fun a o n h => g.keep a o (fun e => n (e ▸ w.mT)) h) d v r
theorem Wd.reps (w : Wd K T M H) (g : Grow K T M H H') {d : List D} {v : List V} (r : Reps K T M H v d) : Reps K T M H' v d :=
  Reps.keep (fun _ _ z => z) (fun a o n h => g.keep a o (fun e => n (e ▸ w.mT)) h) d v r
/-- a new object -/
theorem TapeOk.upd (t : TapeOk K M H T) (h : H p = none) : TapeOk K M (upd H p o) T := by
  obtain ⟨k, acc, mix, cells, h1, h2, r⟩ := t
  exact ⟨k, acc, mix, cells, by rw [upd_ne (ne_of_none h1 h)]; exact h1, by rw [upd_ne (ne_of_none h2 h)]; exact h2, r⟩
theorem Grow.new (w : Wd K T M H) (h : H p = none) : Grow K T M H (upd H p o) := ⟨fun a u _ e => by rw [upd_ne (ne_of_none e h)]; exact e, w.tape.upd h⟩
theorem Wd.fresh (w : Wd K T M H) (h : H p = none) : ¬ M p := fun z => w.md p z h
end

/-! ### slots -/
/-- an owned object -/
def OwnR (K : PySem.W.Frag) (T : Tp) (M : Addr → Prop) (H : Hp) (l : Addr) : D → Prop
  | .lst ds => ∃ vs, H l = some (.lst vs) ∧ Reps K T M H vs ds
  | .dk ks ds => ∃ vs, H l = some (.dK (ks.zip vs)) ∧ ks.length = vs.length ∧ Reps K T M H vs ds
  | .dt ks ds => ∃ vs, H l = some (.dT (ks.zip vs)) ∧ ks.length = vs.length ∧ Reps K T M H vs ds
  | .obj c ns ds => ∃ C dx vs, H l = some (.ins C dx (ns.zip vs)) ∧ C = He.ga K c ∧ ns.length = vs.length ∧ Reps K T M H vs ds ∧ (T.on = true → l = T.me)
  | _ => False
/-- the ghost of a body: its tape, what it may not touch, the heap at its entry -/
structure Gh where
  T : Tp
  M0 : Addr → Prop
  H0 : Hp
  h : M0 T.t
  d : ∀ a, M0 a → H0 a ≠ none
def SlotOk (K : PySem.W.Frag) (g : Gh) (M : Addr → Prop) (H : Hp) (o : Option V) : Slot → Prop
  | .non => True
  | .val d => ∃ v, o = some v ∧ Rep K g.T M H v d
  | .own d => ∃ l, o = some (.ref l) ∧ M l ∧ l ≠ g.T.t ∧ g.H0 l = none ∧ OwnR K g.T M H l d
structure SR (K : PySem.W.Frag) (g : Gh) (M : Addr → Prop) (σ : L2.St) (H : Hp) (env : AEnv) : Prop where
  wd : Wd K g.T M H
  m0 : ∀ a, g.M0 a → M a
  mh : ∀ a, M a → g.M0 a ∨ g.H0 a = none
  gr : ∀ a o, a ≠ g.T.t → g.H0 a = some o → H a = some o
  len : σ.length = env.length
  sl : ∀ (i : Nat) (s : Slot), env[i]? = some s → SlotOk K g M H (σ.getD i none) s
  dis : ∀ (i j : Nat) (l : Addr) (d e : D), i ≠ j → env[i]? = some (Slot.own d) → env[j]? = some (Slot.own e) → σ[i]? = some (some (V.ref l)) → σ[j]? = some (some (V.ref l)) → False
section
variable {K : PySem.W.Frag} {g : Gh} {M M' : Addr → Prop} {σ : L2.St} {H H' : Hp} {env : AEnv} {l : Addr} {d : D}
theorem OwnR.keep (hM : ∀ a, H a ≠ none → M' a → M a) (hk : ∀ a o, ¬ M a → H a = some o → H' a = some o) (hl : ∀ o, H l = some o → H' l = some o) : OwnR K g.T M H l d → OwnR K g.T M' H' l d := by
  cases d with
  | lst ds => rintro ⟨vs, h, r⟩; exact ⟨vs, hl _ h, Reps.keep hM hk _ _ r⟩
  | dk ks ds => rintro ⟨vs, h, e, r⟩; exact ⟨vs, hl _ h, e, Reps.keep hM hk _ _ r⟩
  | dt ks ds => rintro ⟨vs, h, e, r⟩; exact ⟨vs, hl _ h, e, Reps.keep hM hk _ _ r⟩
  | obj c ns ds => rintro ⟨C, dx, vs, h, hc, e, r, me⟩; exact ⟨C, dx, vs, hl _ h, hc, e, Reps.keep hM hk _ _ r, me⟩
  | _ => exact fun z => z
theorem SlotOk.keep {o : Option V} {s : Slot} (hM : ∀ a, H a ≠ none → M' a → M a) (hM2 : ∀ a, M a → M' a) (hk : ∀ a o, ¬ M a → H a = some o → H' a = some o) (hl : ∀ l d, s = .own d → o = some (.ref l) → ∀ o, H l = some o → H' l = some o) :
    SlotOk K g M H o s → SlotOk K g M' H' o s := by
  cases s with
  | non => exact fun z => z
  | val d => rintro ⟨v, e, r⟩; exact ⟨v, e, Rep.keep hM hk d v r⟩
  | own d => rintro ⟨l, e, ml, nT, h0, r⟩; exact ⟨l, e, hM2 _ ml, nT, h0, OwnR.keep hM hk (hl l d rfl e) r⟩
theorem SR.grow (s : SR K g M σ H env) (gw : Grow K g.T M H H') : SR K g M σ H' env where
  wd := s.wd.grow gw
  m0 := s.m0
  mh := s.mh
  gr := fun a o n h => gw.keep a o n (s.gr a o n h)
  len := s.len
  sl := fun i x e => by
    refine SlotOk.keep (fun _ _ z => z) (fun _ z => z) (fun a o n h => gw.keep a o (fun e => n (e ▸ s.wd.mT)) h) (fun l d e1 e2 o h => ?_) (s.sl i x e)
    have q := s.sl i x e
    subst e1
    obtain ⟨l', e3, _, nT, _⟩ := q
    rw [e2] at e3
    cases e3
    exact gw.keep _ _ nT h
  dis := s.dis
theorem SR.reps0 (s : SR K g M σ H env) {vs : List V} {ds : List D} (r : Reps K g.T M H vs ds) : Reps K g.T g.M0 H vs ds := Reps.keep (fun a _ z => s.m0 a z) (fun _ _ _ h => h) ds vs r
theorem SR.rep0 (s : SR K g M σ H env) {v : V} {d : D} (r : Rep K g.T M H v d) : Rep K g.T g.M0 H v d := Rep.keep (fun a _ z => s.m0 a z) (fun _ _ _ h => h) d v r
theorem TapeOk.mono {T : Tp} (t : TapeOk K M H T) (h : ∀ a, H a ≠ none → M' a → M a) : TapeOk K M' H T := by
  obtain ⟨k, acc, mix, cells, h1, h2, h3, r⟩ := t
  exact ⟨k, acc, mix, cells, h1, h2, fun z => h3 (h T.c (by rw [h2]; simp) z), r⟩
theorem SR.grow0 (s : SR K g M σ H env) : Grow K g.T g.M0 g.H0 H := ⟨s.gr, s.wd.tape.mono fun a _ z => s.m0 a z⟩
end

/-! ### judgements -/
/-- a borrowed value: it, or an owned object as it stands -/
def BRep (K : PySem.W.Frag) (T : Tp) (M : Addr → Prop) (H : Hp) (v : V) (d : D) : Prop := Rep K T M H v d ∨ ∃ l, v = .ref l ∧ l ≠ T.t ∧ M l ∧ OwnR K T M H l d
theorem Wd.brep {K : PySem.W.Frag} {T : Tp} {M : Addr → Prop} {H H' : Hp} (w : Wd K T M H) (g : Grow K T M H H') {d : D} {v : V} (r : BRep K T M H v d) : BRep K T M H' v d := by
  rcases r with r | ⟨l, e, n, m, r⟩
  · exact .inl (w.rep g r)
  · refine .inr ⟨l, e, n, m, ?_⟩
    exact OwnR.keep (g := ⟨T, fun a => a = T.t, fun _ => some (.lst []), rfl, fun _ _ => by simp⟩) (fun _ _ z => z) (fun a o n h => g.keep a o (fun e => n (e ▸ w.mT)) h) (fun o h => g.keep _ _ n h) r
def tP (K : PySem.W.Frag) (f : FE) : TE := fun σ H Q => ∃ g M env Qd, SR K g M σ H env ∧ f env Qd ∧ ∀ d v H', Qd d → Grow K g.T M H H' → Rep K g.T M H' v d → Q v H'
def tB (K : PySem.W.Frag) (f : FE) : TE := fun σ H Q => ∃ g M env Qd, SR K g M σ H env ∧ f env Qd ∧ ∀ d v H', Qd d → Grow K g.T M H H' → BRep K g.T M H' v d → Q v H'
/-- a list (or a dict) just made, known to nobody -/
def FRep (K : PySem.W.Frag) (T : Tp) (M : Addr → Prop) (H H' : Hp) (v : V) (d : D) : Prop := ∃ l, v = .ref l ∧ H l = none ∧ OwnR K T (fun a => M a ∨ a = l) H' l d
def tF (K : PySem.W.Frag) (f : FE) : TE := fun σ H Q => ∃ g M env Qd, SR K g M σ H env ∧ f env Qd ∧ ∀ d v H', Qd d → Grow K g.T M H H' → FRep K g.T M H H' v d → Q v H'
def tPA (K : PySem.W.Frag) (f : FEs) : TA := fun σ H Q => ∃ g M env Qd, SR K g M σ H env ∧ f env Qd ∧ ∀ d v H', Qd d → Grow K g.T M H H' → Reps K g.T M H' v d → Q v H'
def tPT (K : PySem.W.Frag) (f : FT) : TT := fun σ H Q => ∃ g M env Qd, SR K g M σ H env ∧ f env Qd ∧ ∀ b H', Qd b → Grow K g.T M H H' → Q b H'
structure EndsOk (K : PySem.W.Frag) (g : Gh) (A : AEnds) (Dn : Ends) : Prop where
  nx : ∀ env M σ H, A.nx env → SR K g M σ H env → Dn.nx σ H
  rt : ∀ d v H, A.rt d → Grow K g.T g.M0 g.H0 H → Rep K g.T g.M0 H v d → Dn.rt v H
  bk : ∀ env M σ H, A.bk env → SR K g M σ H env → Dn.bk σ H
  ct : ∀ env M σ H, A.ct env → SR K g M σ H env → Dn.ct σ H
def tPS (K : PySem.W.Frag) (F : FS) : TS := fun Dn σ H => ∃ g M env A, SR K g M σ H env ∧ F A env ∧ EndsOk K g A Dn
abbrev PP (X : Cx) (e : Expr) (f : FE) : Prop := PE X e (tP X.K f)
abbrev PB (X : Cx) (e : Expr) (f : FE) : Prop := PE X e (tB X.K f)
abbrev PF (X : Cx) (e : Expr) (f : FE) : Prop := PE X e (tF X.K f)
abbrev PPA (X : Cx) (es : List Expr) (f : FEs) : Prop := PA X es (tPA X.K f)
abbrev PPT (X : Cx) (e : Expr) (f : FT) : Prop := PT X e (tPT X.K f)
abbrev PPS (X : Cx) (st : Stmt) (F : FS) : Prop := PS X st (tPS X.K F)
abbrev PPSs (X : Cx) (sts : List Stmt) (F : FS) : Prop := PSs X sts (tPS X.K F)

section
variable {X : Cx}
theorem _root_.L2.PE.imp {e : Expr} {t t' : TE} (h : PE X e t) (w : ∀ σ H Q, t' σ H Q → t σ H Q) : PE X e t' := ⟨fun pins s σ H Q I q => h.run pins s σ H Q I (w _ _ _ q)⟩
theorem _root_.L2.PT.imp {e : Expr} {t t' : TT} (h : PT X e t) (w : ∀ σ H Q, t' σ H Q → t σ H Q) : PT X e t' := ⟨fun pins s σ H Q I q => h.run pins s σ H Q I (w _ _ _ q)⟩
theorem _root_.L2.PA.imp {e : List Expr} {t t' : TA} (h : PA X e t) (w : ∀ σ H Q, t' σ H Q → t σ H Q) : PA X e t' := ⟨fun pos pins s σ H Q I q => h.run pos pins s σ H Q I (w _ _ _ q)⟩
theorem _root_.L2.PS.imp {e : Stmt} {t t' : TS} (h : PS X e t) (w : ∀ D σ H, t' D σ H → t D σ H) : PS X e t' := ⟨fun pins s σ H D I q => h.run pins s σ H D I (w _ _ _ q)⟩
theorem _root_.L2.PSs.imp {e : List Stmt} {t t' : TS} (h : PSs X e t) (w : ∀ D σ H, t' D σ H → t D σ H) : PSs X e t' := ⟨fun pins s σ H D I q => h.run pins s σ H D I (w _ _ _ q)⟩

/-! ### names, constants -/
theorem SR.slot {K : PySem.W.Frag} {g : Gh} {M : Addr → Prop} {σ : L2.St} {H : Hp} {env : AEnv} (s : SR K g M σ H env) {i : Nat} {x : Slot} (e : env[i]? = some x) : ∃ o, σ[i]? = some o ∧ SlotOk K g M H o x := by
  have hl : i < env.length := by
    rcases Nat.lt_or_ge i env.length with h | h
    · exact h
    · rw [List.getElem?_eq_none h] at e; cases e
  have h2 : i < σ.length := by rw [s.len]; exact hl
  refine ⟨σ[i], List.getElem?_eq_getElem h2, ?_⟩
  have q := s.sl i x e
  rw [List.getD_eq_getElem?_getD, List.getElem?_eq_getElem h2] at q
  exact q
theorem pp_var (i : Nat) {x : Str} {pos : Pos} (hN : X.N[i]? = some x := by rfl) (hv : Vis X.env.scope x := by first | exact Or.inl rfl | exact Or.inr (Or.inl rfl) | exact Or.inr (Or.inr rfl)) (hd : (x == ("__debug__" : Str)) = false := by decide)
    (hcd : (x == ("__classdict__" : Str)) = false := by decide) : PP X (.Name x pos) (wVar i) :=
  (pv i hN hv hd hcd).imp fun σ H Q ⟨g, M, env, Qd, s, ⟨d, e, q⟩, k⟩ => by
    obtain ⟨o, e1, v, e2, r⟩ := s.slot e
    subst e2
    exact ⟨v, e1, k d v H q (.refl s.wd) r⟩
theorem pb_own (i : Nat) {x : Str} {pos : Pos} (hN : X.N[i]? = some x := by rfl) (hv : Vis X.env.scope x := by first | exact Or.inl rfl | exact Or.inr (Or.inl rfl) | exact Or.inr (Or.inr rfl)) (hd : (x == ("__debug__" : Str)) = false := by decide)
    (hcd : (x == ("__classdict__" : Str)) = false := by decide) : PB X (.Name x pos) (wOwn i) :=
  (pv i hN hv hd hcd).imp fun σ H Q ⟨g, M, env, Qd, s, ⟨d, e, q⟩, k⟩ => by
    obtain ⟨o, e1, l, e2, ml, nT, h0, r⟩ := s.slot e
    subst e2
    exact ⟨_, e1, k d _ H q (.refl s.wd) (.inr ⟨l, rfl, nT, ml, r⟩)⟩
theorem pb {e : Expr} {f : FE} (h : PP X e f) : PB X e f := PE.imp h fun σ H Q ⟨g, M, env, Qd, s, q, k⟩ => ⟨g, M, env, Qd, s, q, fun d v H' a b c => k d v H' a b (.inl c)⟩
/-- a fresh object is a value -/
theorem OwnR.rep {K : PySem.W.Frag} {T : Tp} {M M' : Addr → Prop} {H : Hp} {l : Addr} {d : D} (hM : ∀ a, M a → M' a) (n : ¬ M l) (h : OwnR K T M' H l d) : Rep K T M H (.ref l) d := by
  have kp : ∀ {vs ds}, Reps K T M' H vs ds → Reps K T M H vs ds := fun {vs ds} r => Reps.keep (fun a _ z => hM a z) (fun _ _ _ h => h) ds vs r
  cases d with
  | lst ds => obtain ⟨vs, h, r⟩ := h; exact .lst h n (kp r)
  | dk ks ds => obtain ⟨vs, h, e, r⟩ := h; exact .dk h n e (kp r)
  | dt ks ds => obtain ⟨vs, h, e, r⟩ := h; exact .dt h n e (kp r)
  | obj c ns ds => obtain ⟨C, dx, vs, h, hc, e, r, _⟩ := h; exact .obj h hc n e (kp r)
  | _ => exact h.elim
theorem pf {e : Expr} {f : FE} (h : PF X e f) : PP X e f := PE.imp h fun σ H Q ⟨g, M, env, Qd, s, q, k⟩ => ⟨g, M, env, Qd, s, q, fun d v H' a b ⟨l, e1, n, r⟩ => by
  subst e1
  exact k d _ H' a b (r.rep (fun _ z => .inl z) (s.wd.fresh n))⟩
theorem pp_c {e : Expr} {v : V} {d : D} (h : PE X e (tC v)) (r : ∀ K T M H, Rep K T M H v d) : PP X e (wC d) := h.imp fun σ H Q ⟨g, M, env, Qd, s, q, k⟩ => k d v H q (.refl s.wd) (r _ _ _ _)
theorem pp_int {i j pos} : PP X (.Constant (.int i) j pos) (wC (.int i)) := pp_c pe_int fun _ _ _ _ => .int i
theorem pp_bl {i j pos} : PP X (.Constant (.bool i) j pos) (wC (.bl i)) := pp_c pe_bl fun _ _ _ _ => .bl i
theorem pp_str {i j pos} : PP X (.Constant (.str i) j pos) (wC (.str i)) := pp_c pe_str fun _ _ _ _ => .str i
theorem pp_non {j pos} : PP X (.Constant .none j pos) (wC .non) := pp_c pe_non fun _ _ _ _ => .non

/-! ### operators -/
/-- φ is what the operator's rule r makes of data -/
def OpA (K : PySem.W.Frag) (r : R2) (φ : D → D → (D → Prop) → Prop) : Prop :=
  ∀ (T : Tp) (M : Addr → Prop) (H : Hp) (x y : V) (dx dy : D) (Q : VK) (Qd : D → Prop), Wd K T M H → BRep K T M H x dx → BRep K T M H y dy → φ dx dy Qd → (∀ d v H', Qd d → Grow K T M H H' → Rep K T M H' v d → Q v H') → r x y H Q
theorem tOp_of {K : PySem.W.Frag} {r : R2} {φ : D → D → (D → Prop) → Prop} {fa fb : FE} (hφ : OpA K r φ) (σ : L2.St) (H : Hp) (Q : VK) (h : tP K (wBin φ fa fb) σ H Q) : tOp r (tB K fa) (tB K fb) σ H Q := by
  obtain ⟨g, M, env, Qd, s, q, k⟩ := h
  refine ⟨g, M, env, _, s, q, fun dx x H1 q1 g1 r1 => ?_⟩
  have s1 := s.grow g1
  refine ⟨g, M, env, _, s1, q1, fun dy y H2 q2 g2 r2 => ?_⟩
  exact hφ g.T M H2 x y dx dy Q Qd (s1.grow g2).wd (s1.wd.brep g2 r1) r2 q2 fun d v H' a b c => k d v H' a ((g1.trans g2).trans b) c
theorem pp_op {op : Operator} {r : R2} {φ : D → D → (D → Prop) → Prop} {fa fb : FE} {a b : Expr} {pos : Pos} (ho : OpR X (binaryOp op) r) (hφ : OpA X.K r φ) (ha : PB X a fa) (hb : PB X b fb) : PP X (.BinOp a op b pos) (wBin φ fa fb) :=
  (pe_op ho ha hb).imp fun σ H Q h => tOp_of hφ σ H Q h
theorem pp_cmp {op : CmpOp} {r : R2} {φ : D → D → (D → Prop) → Prop} {fa fb : FE} {a b : Expr} {pos : Pos} (ho : OpR X (compareOp op) r) (hφ : OpA X.K r φ) (ha : PB X a fa) (hb : PB X b fb) (hm : behindInMarks op b = false) : PP X (.Compare a [op] [b] pos) (wBin φ fa fb) :=
  (pe_cmpR ho ha hb hm).imp fun σ H Q h => tOp_of hφ σ H Q h
theorem pp_ix {r : R2} {φ : D → D → (D → Prop) → Prop} {fa fb : FE} {a b : Expr} {pos : Pos} (ho : IxR X r) (hφ : OpA X.K r φ) (ha : PB X a fa) (hb : PB X b fb) (hs : PlainIx b := by intro _ _; rfl) : PP X (.Subscript a b pos) (wBin φ fa fb) :=
  (pe_ix ho ha hb hs).imp fun σ H Q h => tOp_of hφ σ H Q h
theorem OpA.or {K : PySem.W.Frag} {r r' : R2} {φ φ' : D → D → (D → Prop) → Prop} (h : OpA K r φ) (h' : OpA K r' φ') : OpA K (fun x y H Q => r x y H Q ∨ r' x y H Q) (fun x y Q => φ x y Q ∨ φ' x y Q) :=
  fun T M H x y dx dy Q Qd w r1 r2 q k => q.elim (fun q => .inl (h T M H x y dx dy Q Qd w r1 r2 q k)) fun q => .inr (h' T M H x y dx dy Q Qd w r1 r2 q k)
end
end Pl
end

section
set_option Elab.async false
set_option linter.all false
set_option maxRecDepth 100000
set_option maxHeartbeats 1000000
set_option autoImplicit false
namespace Pl
open PySem PySem.Spec PyProof.Rows L2
theorem line_eq : (sizeLine : Nat) = 16777216 := sizeLine_eq
section
variable {K : PySem.W.Frag} {T : Tp} {M : Addr → Prop} {H : Hp} {v : V}
theorem BRep.int {i : Int} (r : BRep K T M H v (.int i)) : v = .int i := by
  rcases r with r | ⟨l, _, _, _, z⟩
  · cases r; rfl
  · exact z.elim
theorem BRep.bl {i : Bool} (r : BRep K T M H v (.bl i)) : v = .bl i := by
  rcases r with r | ⟨l, _, _, _, z⟩
  · cases r; rfl
  · exact z.elim
theorem BRep.str {i : Str} (r : BRep K T M H v (.str i)) : v = .str i := by
  rcases r with r | ⟨l, _, _, _, z⟩
  · cases r; rfl
  · exact z.elim
theorem BRep.non (r : BRep K T M H v .non) : v = .non := by
  rcases r with r | ⟨l, _, _, _, z⟩
  · cases r; rfl
  · exact z.elim
theorem BRep.lst {ds : List D} (r : BRep K T M H v (.lst ds)) : ∃ a vs, v = .ref a ∧ H a = some (.lst vs) ∧ Reps K T M H vs ds := by
  rcases r with r | ⟨l, e, _, _, vs, h, r⟩
  · cases r with
    | lst h1 h2 h3 => exact ⟨_, _, rfl, h1, h3⟩
  · exact ⟨l, vs, e, h, r⟩
theorem BRep.tup {ds : List D} (r : BRep K T M H v (.tup ds)) : ∃ a vs, v = .ref a ∧ SqT K H a vs ∧ Reps K T M H vs ds := by
  rcases r with r | ⟨l, _, _, _, z⟩
  · cases r with
    | tup h1 h2 h3 => exact ⟨_, _, rfl, .of h1, h3⟩
    | wtup h1 h3 => exact ⟨_, _, rfl, h1.sq, h3⟩
  · exact z.elim
theorem Reps.inv_nil {vs : List V} (r : Reps K T M H vs []) : vs = [] := by cases r; rfl
theorem Reps.inv_cons {vs : List V} {d : D} {ds : List D} (r : Reps K T M H vs (d :: ds)) : ∃ v us, vs = v :: us ∧ Rep K T M H v d ∧ Reps K T M H us ds := by
  cases r with
  | cons a b => exact ⟨_, _, rfl, a, b⟩
theorem Rep.b {d : D} (r : Rep K T M H v d) : BRep K T M H v d := .inl r
end
section
variable {K : PySem.W.Frag}
/-! ### operators -/
theorem opa_int {C : Int → Int → Prop} {f : Int → Int → V} {g : Int → Int → D} {C' : Int → Int → Prop} (hC : ∀ i j, C' i j → C i j) (h : ∀ T M H i j, Rep K T M H (f i j) (g i j)) : OpA K (rI C f) (dInt2 C' g) := by
  intro T M H x y dx dy Q Qd w r1 r2 q k
  unfold dInt2 at q
  split at q
  · have e1 := r1.int
    have e2 := r2.int
    exact ⟨_, _, e1, e2, hC _ _ q.1, k _ _ _ q.2 (.refl w) (h _ _ _ _ _)⟩
  · exact q.elim
theorem opa_int0 {f : Int → Int → V} {g : Int → Int → D} (h : ∀ T M H i j, Rep K T M H (f i j) (g i j)) : OpA K (rI0 f) (dInt2 (fun _ _ => True) g) := by
  intro T M H x y dx dy Q Qd w r1 r2 q k
  unfold dInt2 at q
  split at q
  · exact ⟨_, _, r1.int, r2.int, k _ _ _ q.2 (.refl w) (h _ _ _ _ _)⟩
  · exact q.elim
theorem a_sub : OpA K (rI0 fun i j => .int (i - j)) dSub := opa_int0 fun _ _ _ _ _ => .int _
theorem a_lt : OpA K (rI0 fun i j => .bl (decide (i < j))) dLt := opa_int0 fun _ _ _ _ _ => .bl _
theorem a_le : OpA K (rI0 fun i j => .bl (decide (i ≤ j))) dLe := opa_int0 fun _ _ _ _ _ => .bl _
theorem a_gt : OpA K (rI0 fun i j => .bl (decide (j < i))) dGt := opa_int0 fun _ _ _ _ _ => .bl _
theorem a_ge : OpA K (rI0 fun i j => .bl (decide (j ≤ i))) dGe := opa_int0 fun _ _ _ _ _ => .bl _
theorem a_fdiv : OpA K (rI CDivW fun i j => .int (i / j)) dFdiv := opa_int (fun _ _ h => h) fun _ _ _ _ _ => .int _
theorem a_mod : OpA K (rI (fun _ j => 0 < j) fun i j => .int (i % j)) dMod := opa_int (fun _ _ h => h) fun _ _ _ _ _ => .int _
theorem a_pow : OpA K (rI CPow fun i j => .int (i ^ j.toNat)) dPow := opa_int (fun _ _ h => h) fun _ _ _ _ _ => .int _
section
variable {X : Cx}
abbrev rMulA : R2 := fun x y H Q => (rI CMul fun i j => .int (i * j)) x y H Q ∨ ((rI CMulW fun i j => .int (i * j)) x y H Q ∨ rRep x y H Q)
theorem op_mulA : OpR X (binaryOp .Mult) rMulA := op_mul.or (op_mulW.or op_rep)
abbrev rAddA (K : PySem.W.Frag) : R2 := fun x y H Q => (rI0 fun i j => .int (i + j)) x y H Q ∨ ((fun x y H Q => ∃ i j, x = .str i ∧ y = .str j ∧ i.length + j.length ≤ sizeLine ∧ Q (.str (i ++ j)) H) x y H Q ∨ (rCat x y H Q ∨ rCatT K x y H Q))
theorem op_addA : OpR X (binaryOp .Add) (rAddA X.K) := op_add.or (op_add_str.or (op_cat.or op_catT))
end
theorem a_mul : OpA K rMulA dMul := by
  intro T M H x y dx dy Q Qd w r1 r2 q k
  unfold dMul at q
  split at q
  · rename_i i j
    obtain ⟨c, q⟩ := q
    have kk := k _ _ _ q (.refl w) (.int _)
    rcases c with c | c | c
    · exact .inl ⟨_, _, r1.int, r2.int, .inl c, kk⟩
    · exact .inl ⟨_, _, r1.int, r2.int, .inr c, kk⟩
    · exact .inr (.inl ⟨_, _, r1.int, r2.int, c, kk⟩)
  · rename_i a j
    obtain ⟨⟨c1, c2, c3⟩, q⟩ := q
    obtain ⟨l, vs, e, h, rs⟩ := r1.lst
    refine .inr (.inr ⟨l, j, vs, e, r2.int, h, c1, c2, by rw [line_eq, rs.length]; exact c3, ?_⟩)
    intro p hp
    have g : Grow K T M H (upd H p (.lst (List.replicate j.toNat vs).flatten)) := .new w hp
    exact k _ _ _ q g (.lst upd_same (w.fresh hp) (w.reps g (rs.rep _)))
  · exact q.elim
theorem a_add : OpA K (rAddA K) dAdd := by
  intro T M H x y dx dy Q Qd w r1 r2 q k
  unfold dAdd at q
  split at q
  · exact .inl ⟨_, _, r1.int, r2.int, k _ _ _ q (.refl w) (.int _)⟩
  · exact .inr (.inl ⟨_, _, r1.str, r2.str, by rw [line_eq]; exact q.1, k _ _ _ q.2 (.refl w) (.str _)⟩)
  · obtain ⟨l, vs, e, h, rs⟩ := r1.lst
    obtain ⟨l', vs', e', h', rs'⟩ := r2.lst
    refine .inr (.inr (.inl ⟨l, l', vs, vs', e, e', h, h', by rw [line_eq, rs.length, rs'.length]; exact q.1, ?_⟩))
    intro p hp
    have g : Grow K T M H (upd H p (.lst (vs ++ vs'))) := .new w hp
    exact k _ _ _ q.2 g (.lst upd_same (w.fresh hp) (w.reps g (rs.append rs')))
  · rename_i a b
    obtain ⟨l, vs, e, h, rs⟩ := r1.tup
    obtain ⟨l', vs', e', h', rs'⟩ := r2.tup
    obtain ⟨ne, hl, q⟩ := q
    refine .inr (.inr (.inr ⟨l, l', vs, vs', e, e', h, h', fun z => ?_, by rw [line_eq, rs.length, rs'.length]; exact hl, fun z => ?_, fun _ p hp => ?_⟩))
    · subst z
      have := rs.length
      exact ne (List.length_eq_zero_iff.mp this.symm)
    · subst z
      have hb := rs'.length
      have e0 : b = [] := List.length_eq_zero_iff.mp hb.symm
      subst e0
      rw [List.append_nil] at q
      subst e
      rcases r1 with r1 | ⟨_, _, _, _, z⟩
      · exact k _ _ _ q (.refl w) r1
      · exact z.elim
    · have g : Grow K T M H (upd H p (.tup (vs ++ vs'))) := .new w hp
      exact k _ _ _ q g (.tup upd_same (w.fresh hp) (w.reps g (rs.append rs')))
  · exact q.elim
end
end Pl
end

section
set_option Elab.async false
set_option linter.all false
set_option maxRecDepth 100000
set_option maxHeartbeats 1000000
set_option autoImplicit false
namespace Pl
open PySem PySem.Spec PyProof.Rows L2
/-! ### equality -/
mutual
def toPy : D → PyData
  | .non => .none
  | .bl b => .bool b
  | .int i => .int i
  | .str s => .str s
  | .tup xs => .tuple (toPys xs)
  | .lst xs => .list (toPys xs)
  | .dk _ _ => .dict []
  | .dt _ _ => .dict []
  | .obj _ _ _ => .dict []
  | .tape => .dict []
def toPys : List D → List PyData
  | [] => []
  | x :: xs => toPy x :: toPys xs
end
mutual
theorem eqv_deq : ∀ (n m : Nat) (x y : D), plain n x = true → plain m y = true → PyData.eqv (toPy x) (toPy y) = deq x y
  | n, m, .non, y, h, h' => by cases y <;> simp_all [toPy, deq, PyData.eqv, plain]
  | n, m, .bl b, y, h, h' => by cases y <;> simp_all [toPy, deq, PyData.eqv, plain]
  | n, m, .int b, y, h, h' => by cases y <;> simp_all [toPy, deq, PyData.eqv, plain]
  | n, m, .str b, y, h, h' => by cases y <;> simp_all [toPy, deq, PyData.eqv, plain]
  | 0, m, .tup xs, y, h, h' => by simp [plain] at h
  | 0, m, .lst xs, y, h, h' => by simp [plain] at h
  | n + 1, m, .tup xs, y, h, h' => by
    cases y with
    | tup ys =>
      cases m with
      | zero => simp [plain] at h'
      | succ m =>
        simp only [toPy, deq, PyData.eqv]
        exact eqvs_deqs n m xs ys (by simpa [plain] using h) (by simpa [plain] using h')
    | _ => simp_all [toPy, deq, PyData.eqv, plain]
  | n + 1, m, .lst xs, y, h, h' => by
    cases y with
    | lst ys =>
      cases m with
      | zero => simp [plain] at h'
      | succ m =>
        simp only [toPy, deq, PyData.eqv]
        exact eqvs_deqs n m xs ys (by simpa [plain] using h) (by simpa [plain] using h')
    | _ => simp_all [toPy, deq, PyData.eqv, plain]
  | n, m, .dk ks ds, y, h, h' => by cases n <;> simp [plain] at h
  | n, m, .dt ks ds, y, h, h' => by cases n <;> simp [plain] at h
  | n, m, .obj c ks ds, y, h, h' => by cases n <;> simp [plain] at h
  | n, m, .tape, y, h, h' => by cases n <;> simp [plain] at h
theorem eqvs_deqs : ∀ (n m : Nat) (xs ys : List D), plains n xs = true → plains m ys = true → PyData.eqvAll (toPys xs) (toPys ys) = deqs xs ys
  | n, m, [], ys, h, h' => by cases ys <;> simp_all [toPys, deqs, PyData.eqvAll, plains]
  | n, m, x :: xs, [], h, h' => by simp_all [toPys, deqs, PyData.eqvAll, plains]
  | n, m, x :: xs, y :: ys, h, h' => by
    have h1 : plain n x = true ∧ plains n xs = true := by simpa [plains] using h
    have h2 : plain m y = true ∧ plains m ys = true := by simpa [plains] using h'
    simp only [toPys, deqs, PyData.eqvAll]
    rw [eqv_deq n m x y h1.1 h2.1, eqvs_deqs n m xs ys h1.2 h2.2]
end
mutual
theorem canLay_plain : ∀ (n : Nat) (x : D), plain n x = true → (toPy x).canLay0 = true
  | n, .non, h => rfl
  | n, .bl b, h => rfl
  | n, .int b, h => rfl
  | n, .str b, h => by simpa [plain, toPy, PyData.canLay0, okStr, PyData.strOk] using h
  | 0, .tup xs, h => by simp [plain] at h
  | 0, .lst xs, h => by simp [plain] at h
  | n + 1, .tup xs, h => by simpa [toPy, PyData.canLay0] using canLays_plain n xs (by simpa [plain] using h)
  | n + 1, .lst xs, h => by simpa [toPy, PyData.canLay0] using canLays_plain n xs (by simpa [plain] using h)
  | n, .dk ks ds, h => by cases n <;> simp [plain] at h
  | n, .dt ks ds, h => by cases n <;> simp [plain] at h
  | n, .obj c ks ds, h => by cases n <;> simp [plain] at h
  | n, .tape, h => by cases n <;> simp [plain] at h
theorem canLays_plain : ∀ (n : Nat) (xs : List D), plains n xs = true → PyData.canLayAll0 (toPys xs) = true
  | n, [], h => rfl
  | n, x :: xs, h => by
    have h1 : plain n x = true ∧ plains n xs = true := by simpa [plains] using h
    simp [toPys, PyData.canLayAll0, canLay_plain n x h1.1, canLays_plain n xs h1.2]
end
mutual
theorem depth_plain : ∀ (n : Nat) (x : D), plain n x = true → (toPy x).depth ≤ n + 1
  | n, .non, h => by simp [toPy, PyData.depth]
  | n, .bl b, h => by simp [toPy, PyData.depth]
  | n, .int b, h => by simp [toPy, PyData.depth]
  | n, .str b, h => by simp [toPy, PyData.depth]
  | 0, .tup xs, h => by simp [plain] at h
  | 0, .lst xs, h => by simp [plain] at h
  | n + 1, .tup xs, h => by simpa [toPy, PyData.depth] using depths_plain n xs (by simpa [plain] using h)
  | n + 1, .lst xs, h => by simpa [toPy, PyData.depth] using depths_plain n xs (by simpa [plain] using h)
  | n, .dk ks ds, h => by cases n <;> simp [plain] at h
  | n, .dt ks ds, h => by cases n <;> simp [plain] at h
  | n, .obj c ks ds, h => by cases n <;> simp [plain] at h
  | n, .tape, h => by cases n <;> simp [plain] at h
theorem depths_plain : ∀ (n : Nat) (xs : List D), plains n xs = true → PyData.depthAll (toPys xs) ≤ n + 1
  | n, [], h => by simp [toPys, PyData.depthAll]
  | n, x :: xs, h => by
    have h1 : plain n x = true ∧ plains n xs = true := by simpa [plains] using h
    have a := depth_plain n x h1.1
    have b := depths_plain n xs h1.2
    simp only [toPys, PyData.depthAll]
    omega
end
theorem shaped_plain {x : D} (h : plain 20 x = true) : SeqAt.shaped (toPy x) = true := by
  have h1 := canLay_plain 20 x h
  have h2 := depth_plain 20 x h
  simp only [SeqAt.shaped, h1, Bool.true_and, decide_eq_true_eq]
  omega
section
variable {K : PySem.W.Frag} {T : Tp} {M : Addr → Prop} {H : Hp} {v : V}
mutual
theorem dp_of : ∀ (n : Nat) (x : D) (v : V), plain n x = true → Rep K T M H v x → Dp K H v (toPy x)
  | _, .non, _, _, r => by cases r; exact .non
  | _, .bl b, _, _, r => by cases r; exact .bl b
  | _, .int b, _, _, r => by cases r; exact .int b
  | _, .str b, _, _, r => by cases r; exact .str b
  | 0, .tup xs, v, h, r => by simp [plain] at h
  | 0, .lst xs, v, h, r => by simp [plain] at h
  | n + 1, .tup xs, v, h, r => by
    have h1 : plains n xs = true := by simpa [plain] using h
    cases r with
    | tup e _ rs => exact .tup (.of e) (dps_of n xs _ h1 rs)
    | wtup e rs => exact .tup e.sq (dps_of n xs _ h1 rs)
  | n + 1, .lst xs, v, h, r => by
    have h1 : plains n xs = true := by simpa [plain] using h
    cases r with
    | lst e _ rs => exact .lst (.of e) (dps_of n xs _ h1 rs)
  | n, .dk ks ds, v, h, r => by cases n <;> simp [plain] at h
  | n, .dt ks ds, v, h, r => by cases n <;> simp [plain] at h
  | n, .obj c ks ds, v, h, r => by cases n <;> simp [plain] at h
  | n, .tape, v, h, r => by cases n <;> simp [plain] at h
theorem dps_of : ∀ (n : Nat) (xs : List D) (vs : List V), plains n xs = true → Reps K T M H vs xs → DpAll K H vs (toPys xs)
  | _, [], _, _, r => by cases r; exact .nil
  | n, x :: xs, _, h, r => by
    have h1 : plain n x = true ∧ plains n xs = true := by simpa [plains] using h
    cases r with
    | cons a b => exact .cons (dp_of n x _ h1.1 a) (dps_of n xs _ h1.2 b)
end
theorem BRep.dp {x : D} (h : plain 20 x = true) (r : BRep K T M H v x) : Dp K H v (toPy x) := by
  rcases r with r | ⟨l, e, _, _, r⟩
  · exact dp_of 20 x v h r
  · subst e
    cases x with
    | lst ds =>
      obtain ⟨vs, h1, rs⟩ := r
      exact .lst (.of h1) (dps_of 19 ds _ (by simpa [plain] using h) rs)
    | dk ks ds => simp [plain] at h
    | dt ks ds => simp [plain] at h
    | obj c ks ds => simp [plain] at h
    | _ => exact r.elim
end
section
variable {K : PySem.W.Frag}
theorem a_eq : OpA K (rEqD K) dEq := by
  intro T M H x y dx dy Q Qd w r1 r2 ⟨h1, h2, q⟩ k
  refine ⟨_, _, r1.dp h1, r2.dp h2, shaped_plain h1, shaped_plain h2, ?_⟩
  rw [eqv_deq 20 20 dx dy h1 h2]
  exact k _ _ _ q (.refl w) (.bl _)
theorem a_ne : OpA K (rNeD K) dNe := by
  intro T M H x y dx dy Q Qd w r1 r2 ⟨h1, h2, q⟩ k
  refine ⟨_, _, r1.dp h1, r2.dp h2, shaped_plain h1, shaped_plain h2, ?_⟩
  rw [eqv_deq 20 20 dx dy h1 h2]
  exact k _ _ _ q (.refl w) (.bl _)
/-! ### is None -/
theorem BRep.isN {K : PySem.W.Frag} {T : Tp} {M : Addr → Prop} {H : Hp} {v : V} {d : D} (r : BRep K T M H v d) : isNon d = decide (v = .non) := by
  rcases r with r | ⟨l, e, _, _, r⟩
  · cases r <;> simp [isNon]
  · subst e
    cases d <;> first | (simp [isNon]; done) | exact r.elim
theorem a_isN : OpA K (fun x y H Q => y = .non ∧ Q (.bl (decide (x = .non))) H) dIsN := by
  intro T M H x y dx dy Q Qd w r1 r2 q k
  unfold dIsN at q
  split at q
  · refine ⟨r2.non, ?_⟩
    rw [r1.isN] at q
    exact k _ _ _ q (.refl w) (.bl _)
  · exact q.elim
theorem a_notN : OpA K (fun x y H Q => y = .non ∧ Q (.bl (!decide (x = .non))) H) dNotN := by
  intro T M H x y dx dy Q Qd w r1 r2 q k
  unfold dNotN at q
  split at q
  · refine ⟨r2.non, ?_⟩
    rw [r1.isN] at q
    exact k _ _ _ q (.refl w) (.bl _)
  · exact q.elim
/-! ### places -/
theorem ixD_eq (n : Nat) (i : Int) : ixD n i = ixN n i := rfl
theorem Reps.at {T : Tp} {M : Addr → Prop} {H : Hp} {vs : List V} {ds : List D} {i : Int} {d : D} (r : Reps K T M H vs ds) (e : ((ixD ds.length i).bind fun j => ds[j]?) = some d) : ∃ v, atI vs i = some v ∧ Rep K T M H v d := by
  unfold atI
  rw [r.length, ← ixD_eq]
  cases q : ixD ds.length i with
  | none => rw [q] at e; cases e
  | some j =>
    rw [q] at e
    exact r.get e
theorem a_ix : OpA K (rIx K) dIx := by
  intro T M H x y dx dy Q Qd w r1 r2 q k
  unfold dIx at q
  split at q
  · obtain ⟨d, e, q⟩ := q
    obtain ⟨a, vs, e1, h, rs⟩ := r1.lst
    obtain ⟨v, e2, r⟩ := rs.at e
    exact .inl ⟨a, vs, _, v, e1, r2.int, .of h, e2, k _ _ _ q (.refl w) r⟩
  · obtain ⟨d, e, q⟩ := q
    obtain ⟨a, vs, e1, h, rs⟩ := r1.tup
    obtain ⟨v, e2, r⟩ := rs.at e
    exact .inr (.inl ⟨a, vs, _, v, e1, r2.int, h, e2, k _ _ _ q (.refl w) r⟩)
  · exact q.elim
/-! ### in -/
theorem BRep.flat {T : Tp} {M : Addr → Prop} {H : Hp} {v : V} {d : D} (r : BRep K T M H v d) (f : flatD d = true) : flatV v = true := by
  rcases r with r | ⟨l, e, _, _, r⟩
  · cases r <;> first | rfl | simp [flatD] at f
  · cases d <;> first | exact r.elim | simp [flatD] at f
theorem eqV_deq {T : Tp} {M : Addr → Prop} {H : Hp} {v u : V} {d e : D} (r : Rep K T M H v d) (s : BRep K T M H u e) (f : flatD d = true) (f' : flatD e = true) : eqV v u = deq d e := by
  rcases s with s | ⟨l, e1, _, _, s⟩
  · cases r <;> first | (simp [flatD] at f; done) | (cases s <;> first | (simp [flatD] at f'; done) | simp [eqV, deq])
  · cases e <;> first | exact s.elim | simp [flatD] at f'
theorem inV_any {T : Tp} {M : Addr → Prop} {H : Hp} {u : V} {e : D} (s : BRep K T M H u e) (f' : flatD e = true) : ∀ {vs : List V} {ds : List D}, Reps K T M H vs ds → ds.all flatD = true → (vs.all flatV = true ∧ inV u vs = ds.any fun y => deq y e)
  | _, _, .nil, _ => ⟨rfl, rfl⟩
  | v :: vs, d :: ds, .cons r t, f => by
    rw [List.all_cons, Bool.and_eq_true] at f
    obtain ⟨h1, h2⟩ := inV_any s f' t f.2
    refine ⟨by rw [List.all_cons, Bool.and_eq_true]; exact ⟨r.b.flat f.1, h1⟩, ?_⟩
    show (eqV v u || inV u vs) = _
    rw [eqV_deq r s f.1 f', h2, List.any_cons]
theorem a_in : OpA K (rIn K false) dIn := by
  intro T M H x y dx dy Q Qd w r1 r2 q k
  unfold dIn at q
  split at q
  · obtain ⟨f1, f2, q⟩ := q
    obtain ⟨a, vs, e1, h, rs⟩ := r2.lst
    obtain ⟨h1, h2⟩ := inV_any r1 f1 rs f2
    refine ⟨a, vs, e1, .inl (.of h), r1.flat f1, h1, ?_⟩
    rw [h2]
    exact k _ _ _ q (.refl w) (.bl _)
  · obtain ⟨f1, f2, q⟩ := q
    obtain ⟨a, vs, e1, h, rs⟩ := r2.tup
    obtain ⟨h1, h2⟩ := inV_any r1 f1 rs f2
    refine ⟨a, vs, e1, .inr h, r1.flat f1, h1, ?_⟩
    rw [h2]
    exact k _ _ _ q (.refl w) (.bl _)
  · exact q.elim
theorem a_notIn : OpA K (rIn K true) dNotIn := by
  intro T M H x y dx dy Q Qd w r1 r2 q k
  unfold dNotIn at q
  split at q
  · obtain ⟨f1, f2, q⟩ := q
    obtain ⟨a, vs, e1, h, rs⟩ := r2.lst
    obtain ⟨h1, h2⟩ := inV_any r1 f1 rs f2
    refine ⟨a, vs, e1, .inl (.of h), r1.flat f1, h1, ?_⟩
    rw [h2]
    exact k _ _ _ q (.refl w) (.bl _)
  · obtain ⟨f1, f2, q⟩ := q
    obtain ⟨a, vs, e1, h, rs⟩ := r2.tup
    obtain ⟨h1, h2⟩ := inV_any r1 f1 rs f2
    refine ⟨a, vs, e1, .inr h, r1.flat f1, h1, ?_⟩
    rw [h2]
    exact k _ _ _ q (.refl w) (.bl _)
  · exact q.elim
end
section
variable {X : Cx}
/-! ### one operand -/
def UnA (K : PySem.W.Frag) (r : V → Hp → VK → Prop) (φ : D → (D → Prop) → Prop) : Prop :=
  ∀ (T : Tp) (M : Addr → Prop) (H : Hp) (x : V) (dx : D) (Q : VK) (Qd : D → Prop), Wd K T M H → BRep K T M H x dx → φ dx Qd → (∀ d v H', Qd d → Grow K T M H H' → Rep K T M H' v d → Q v H') → r x H Q
theorem pp_un {op : UnaryOp} {r : V → Hp → VK → Prop} {φ : D → (D → Prop) → Prop} {f : FE} {a : Expr} {pos : Pos} (ho : UnR X (unaryOp op) r) (hφ : UnA X.K r φ) (ha : PB X a f) : PP X (.UnaryOp op a pos) (wUn φ f) :=
  (pe_un ho ha).imp fun σ H Q ⟨g, M, env, Qd, s, q, k⟩ => ⟨g, M, env, _, s, q, fun d v H1 q1 g1 r1 => hφ g.T M H1 v d Q Qd (s.wd.grow g1) r1 q1 fun d' v' H' a b c => k d' v' H' a (g1.trans b) c⟩
theorem a_neg {K : PySem.W.Frag} : UnA K (rU fun i => .int (-i)) dNeg := by
  intro T M H x dx Q Qd w r q k
  unfold dNeg at q
  split at q
  · exact ⟨_, r.int, k _ _ _ q (.refl w) (.int _)⟩
  · exact q.elim
/-! ### arguments, displays -/
theorem ppa_nil : PPA X [] wNil := pa_nil.imp fun σ H Q ⟨g, M, env, Qd, s, q, k⟩ => k _ _ H q (.refl s.wd) .nil
theorem ppa_cons {e : Expr} {es : List Expr} {f : FE} {fs : FEs} (ha : PP X e f) (hr : PPA X es fs) (hs : starEach (e :: es) X.env = (false, eval e X.env) :: starEach es X.env := by rfl) : PPA X (e :: es) (wCons f fs) :=
  (pa_cons ha hr hs).imp fun σ H Q ⟨g, M, env, Qd, s, q, k⟩ => ⟨g, M, env, _, s, q, fun d v H1 q1 g1 r1 => by
    have s1 := s.grow g1
    exact ⟨g, M, env, _, s1, q1, fun ds vs H2 q2 g2 r2 => k _ _ H2 q2 (g1.trans g2) (.cons (s1.wd.rep g2 r1) r2)⟩⟩
theorem pp_tup {es : List Expr} {fs : FEs} {k : Nat} {pos : Pos} (h : PPA X es fs) : PP X (.Tuple es k pos) (wTup fs) :=
  (pe_tup h).imp fun σ H Q ⟨g, M, env, Qd, s, q, k⟩ => ⟨g, M, env, _, s, q, fun ds vs H1 ⟨l, q1⟩ g1 r1 => by
    have s1 := s.grow g1
    refine ⟨by rw [line_eq, r1.length]; exact l, fun p hp => ?_⟩
    have g2 : Grow X.K g.T M H1 (upd H1 p (.tup vs)) := .new s1.wd hp
    exact k _ _ _ q1 (g1.trans g2) (.tup upd_same (s1.wd.fresh hp) (s1.wd.reps g2 r1))⟩
theorem pf_lst {es : List Expr} {fs : FEs} {pos : Pos} (h : PPA X es fs) : PF X (.List es pos) (wLst fs) :=
  (pe_lst h).imp fun σ H Q ⟨g, M, env, Qd, s, q, k⟩ => ⟨g, M, env, _, s, q, fun ds vs H1 ⟨l, q1⟩ g1 r1 => by
    have s1 := s.grow g1
    refine ⟨by rw [line_eq, r1.length]; exact l, fun p hp => ?_⟩
    have g2 : Grow X.K g.T M H1 (upd H1 p (.lst vs)) := .new s1.wd hp
    refine k _ _ _ q1 (g1.trans g2) ⟨p, rfl, ?_, vs, upd_same, ?_⟩
    · cases e : H p with
      | none => rfl
      | some o =>
        by_cases e2 : p = g.T.t
        · subst e2; exact absurd hp g1.tape.ne
        · rw [g1.keep p o e2 e] at hp; cases hp
    · exact Reps.keep (fun a h z => z.elim id fun z => absurd h (by rw [z, hp]; simp)) (fun a o n h => g2.keep a o (fun e => n (e ▸ s.wd.mT)) h) ds vs r1⟩
end
end Pl
end

section
set_option Elab.async false
set_option linter.all false
set_option maxRecDepth 100000
set_option maxHeartbeats 1000000
set_option autoImplicit false
namespace Pl
open PySem PySem.Spec PyProof.Rows L2
section
variable {X : Cx} {a b c e : Expr} {rest : List Expr} {fa fb fc f : FE} {t u : FT} {pos : Pos}
theorem dBool_of {K : PySem.W.Frag} {T : Tp} {M : Addr → Prop} {H : Hp} {d : D} {v : V} {Q : Bool → Prop} (r : Rep K T M H v d) (q : dBool d Q) : ∃ k, v = .bl k ∧ Q k := by
  cases r <;> first | exact q.elim | exact ⟨_, rfl, q⟩
theorem pp_one {op} (h : PP X a f) : PP X (.BoolOp op [a] pos) f := pe_one h
theorem pp_and (ha : PP X a fa) (hb : PP X (.BoolOp .And (b :: rest) pos) fb) : PP X (.BoolOp .And (a :: b :: rest) pos) (wAndV fa fb) :=
  (pe_and ha hb).imp fun σ H Q ⟨g, M, env, Qd, s, q, k⟩ => ⟨g, M, env, _, s, q, fun d v H1 q1 g1 r1 => by
    obtain ⟨c, e, q2⟩ := dBool_of r1 q1
    refine ⟨c, e, ?_⟩
    split at q2
    · rename_i h
      rw [if_pos h]
      exact ⟨g, M, env, Qd, s.grow g1, q2, fun d v H' a b c => k d v H' a (g1.trans b) c⟩
    · rename_i h
      rw [if_neg h]
      exact k _ _ _ q2 g1 (.bl _)⟩
theorem pp_or (ha : PP X a fa) (hb : PP X (.BoolOp .Or (b :: rest) pos) fb) : PP X (.BoolOp .Or (a :: b :: rest) pos) (wOrV fa fb) :=
  (pe_or ha hb).imp fun σ H Q ⟨g, M, env, Qd, s, q, k⟩ => ⟨g, M, env, _, s, q, fun d v H1 q1 g1 r1 => by
    obtain ⟨c, e, q2⟩ := dBool_of r1 q1
    refine ⟨c, e, ?_⟩
    split at q2
    · rename_i h
      rw [if_pos h]
      exact k _ _ _ q2 g1 (.bl _)
    · rename_i h
      rw [if_neg h]
      exact ⟨g, M, env, Qd, s.grow g1, q2, fun d v H' a b c => k d v H' a (g1.trans b) c⟩⟩
theorem pp_not (ha : PP X a fa) : PP X (.UnaryOp .Not a pos) (wNotV fa) :=
  (pe_not ha).imp fun σ H Q ⟨g, M, env, Qd, s, q, k⟩ => ⟨g, M, env, _, s, q, fun d v H1 q1 g1 r1 => by
    obtain ⟨c, e, q2⟩ := dBool_of r1 q1
    exact ⟨c, e, k _ _ _ q2 g1 (.bl _)⟩⟩
theorem pp_if (hc : PPT X c t) (ha : PP X a fa) (hb : PP X b fb) : PP X (.IfExp c a b pos) (wIf t fa fb) :=
  (pe_ifExp hc ha hb).imp fun σ H Q ⟨g, M, env, Qd, s, q, k⟩ => ⟨g, M, env, _, s, q, fun d H1 q1 g1 => by
    split at q1
    · rename_i h
      rw [if_pos h]
      exact ⟨g, M, env, Qd, s.grow g1, q1, fun d v H' a b c => k d v H' a (g1.trans b) c⟩
    · rename_i h
      rw [if_neg h]
      exact ⟨g, M, env, Qd, s.grow g1, q1, fun d v H' a b c => k d v H' a (g1.trans b) c⟩⟩
theorem tChain_of {K : PySem.W.Frag} {r r' : R2} {φ ψ : Op2} (hφ : OpA K r φ) (hψ : OpA K r' ψ) {fa fb fc : FE} (σ : L2.St) (H : Hp) (Q : VK) (h : tP K (wChain φ ψ fa fb fc) σ H Q) : tChain r r' (tB K fa) (tB K fb) (tB K fc) σ H Q := by
  obtain ⟨g, M, env, Qd, s, q, k⟩ := h
  refine ⟨g, M, env, _, s, q, fun dx x H1 q1 g1 r1 => ?_⟩
  have s1 := s.grow g1
  refine ⟨g, M, env, _, s1, q1, fun dy y H2 q2 g2 r2 => ?_⟩
  have s2 := s1.grow g2
  have r1' := s1.wd.brep g2 r1
  refine hφ g.T M H2 x y dx dy _ _ s2.wd r1' r2 q2 fun d v H3 q3 g3 r3 => ?_
  obtain ⟨c, e, q4⟩ := dBool_of r3 q3
  refine ⟨c, e, ?_⟩
  have s3 := s2.grow g3
  split at q4
  · rename_i h
    rw [if_pos h]
    refine ⟨g, M, env, _, s3, q4, fun dz z H4 q5 g4 r4 => ?_⟩
    have s4 := s3.grow g4
    exact hψ g.T M H4 y z dy dz Q Qd s4.wd (s3.wd.brep g4 (s2.wd.brep g3 r2)) r4 q5 fun d v H' a b c => k d v H' a ((((g1.trans g2).trans g3).trans g4).trans b) c
  · rename_i h
    rw [if_neg h]
    exact k _ _ _ q4 ((g1.trans g2).trans g3) (.bl _)
theorem pp_chain {op op' : CmpOp} {r r' : R2} {φ ψ : Op2} (ho : OpR X (compareOp op) r) (ho' : OpR X (compareOp op') r') (hφ : OpA X.K r φ) (hψ : OpA X.K r' ψ) (ha : PB X a fa) (hb : PB X b fb) (hc : PB X c fc)
    (hm : lastMarks [op, op'] [b, c] = false := by with_unfolding_all rfl) : PP X (.Compare a [op, op'] [b, c] pos) (wChain φ ψ fa fb fc) :=
  (pe_chain ho ho' ha hb hc hm).imp fun σ H Q h => tChain_of hφ hψ σ H Q h
/-! ### tests -/
theorem tTest_of {K : PySem.W.Frag} {tt : TE} {f : FE} (h : ∀ σ H Q, tP K f σ H Q → tt σ H Q) (σ : L2.St) (H : Hp) (Q : Bool → Hp → Prop) (hq : tPT K (wTest f) σ H Q) : tTest tt σ H Q := by
  obtain ⟨g, M, env, Qd, s, q, k⟩ := hq
  refine h σ H _ ⟨g, M, env, _, s, q, fun d v H1 q1 g1 r1 => ?_⟩
  obtain ⟨c, e, q2⟩ := dBool_of r1 q1
  exact ⟨c, e, k _ _ q2 g1⟩
theorem ppt_cmp {op : CmpOp} {r : R2} {φ : Op2} (ho : OpR X (compareOp op) r) (hφ : OpA X.K r φ) (ha : PB X a fa) (hb : PB X b fb) (hm : behindInMarks op b = false) : PPT X (.Compare a [op] [b] pos) (wTest (wBin φ fa fb)) :=
  (pt_cmpR ho ha hb hm).imp fun σ H Q h => tTest_of (fun σ H Q h => tOp_of hφ σ H Q h) σ H Q h
theorem ppt_chain {op op' : CmpOp} {r r' : R2} {φ ψ : Op2} (ho : OpR X (compareOp op) r) (ho' : OpR X (compareOp op') r') (hφ : OpA X.K r φ) (hψ : OpA X.K r' ψ) (ha : PB X a fa) (hb : PB X b fb) (hc : PB X c fc)
    (hm : lastMarks [op, op'] [b, c] = false := by with_unfolding_all rfl) : PPT X (.Compare a [op, op'] [b, c] pos) (wTest (wChain φ ψ fa fb fc)) :=
  (pt_chain ho ho' ha hb hc hm).imp fun σ H Q h => tTest_of (fun σ H Q h => tChain_of hφ hψ σ H Q h) σ H Q h
/-- the truth of a bool (a call's answer, a name) -/
theorem ppt_truth (ha : PP X a fa) (he : ∀ whole, isTrue a X.env whole = (do let v ← whole; standAt a.pos; holding [v] (truthy v)) := by intro _; rfl) : PPT X a (wTest fa) :=
  (pt_truth ha he).imp fun σ H Q ⟨g, M, env, Qd, s, q, k⟩ => ⟨g, M, env, _, s, q, fun d v H1 q1 g1 r1 => by
    obtain ⟨c, e, q2⟩ := dBool_of r1 q1
    subst e
    exact ⟨c, rfl, k _ _ q2 g1⟩⟩
theorem tAnd_of {K : PySem.W.Frag} (σ : L2.St) (H : Hp) (Q : Bool → Hp → Prop) (h : tPT K (wAnd t u) σ H Q) : tAnd (tPT K t) (tPT K u) σ H Q := by
  obtain ⟨g, M, env, Qd, s, q, k⟩ := h
  refine ⟨g, M, env, _, s, q, fun d H1 q1 g1 => ?_⟩
  split at q1
  · rename_i h
    rw [if_pos h]
    exact ⟨g, M, env, Qd, s.grow g1, q1, fun d H' a b => k d H' a (g1.trans b)⟩
  · rename_i h
    rw [if_neg h]
    exact k _ _ q1 g1
theorem tOr_of {K : PySem.W.Frag} (σ : L2.St) (H : Hp) (Q : Bool → Hp → Prop) (h : tPT K (wOr t u) σ H Q) : tOr (tPT K t) (tPT K u) σ H Q := by
  obtain ⟨g, M, env, Qd, s, q, k⟩ := h
  refine ⟨g, M, env, _, s, q, fun d H1 q1 g1 => ?_⟩
  split at q1
  · rename_i h
    rw [if_pos h]
    exact k _ _ q1 g1
  · rename_i h
    rw [if_neg h]
    exact ⟨g, M, env, Qd, s.grow g1, q1, fun d H' a b => k d H' a (g1.trans b)⟩
theorem _root_.L2.PW.imp {e : Expr} {t t' : TT} (h : PW X e t) (w : ∀ σ H Q, t' σ H Q → t σ H Q) : PW X e t' := ⟨fun wh pins s σ H Q I q => h.run wh pins s σ H Q I (w _ _ _ q)⟩
abbrev PPW (X : Cx) (e : Expr) (f : FT) : Prop := PW X e (tPT X.K f)
theorem ppw_and1 (ha : PPT X a t) : PPW X (.BoolOp .And [a] pos) t := pw_and1 ha
theorem ppw_or1 (ha : PPT X a t) : PPW X (.BoolOp .Or [a] pos) t := pw_or1 ha
theorem ppw_and (ha : PPT X a t) (hb : PPW X (.BoolOp .And (b :: rest) pos) u) : PPW X (.BoolOp .And (a :: b :: rest) pos) (wAnd t u) := (pw_and ha hb).imp tAnd_of
theorem ppw_or (ha : PPT X a t) (hb : PPW X (.BoolOp .Or (b :: rest) pos) u) : PPW X (.BoolOp .Or (a :: b :: rest) pos) (wOr t u) := (pw_or ha hb).imp tOr_of
theorem ppt_not (ha : PPT X a t) : PPT X (.UnaryOp .Not a pos) (wNot t) :=
  (pt_not ha).imp fun σ H Q ⟨g, M, env, Qd, s, q, k⟩ => ⟨g, M, env, _, s, q, fun d H1 q1 g1 => k _ _ q1 g1⟩
end

/-! ### calls -/
/-- what a def of data promises -/
def spP (K : PySem.W.Frag) (φ : Fn) : Sp := fun vs H Q _ => ∃ T M ds Qd, Wd K T M H ∧ Reps K T M H vs ds ∧ φ ds Qd ∧ ∀ d v H', Qd d → Grow K T M H H' → Rep K T M H' v d → Q v H'
/-- a def of the module that may be called -/
structure Df (X : Cx) (x : Str) (φ : Fn) : Prop where
  ex : ∃ (k : Nat) (f : Addr) (fd : FuncData) (ps : List Str), FnOk X.prog X.w X.K X.mg X.base CX0 k f fd ps (spP X.K φ) ∧ Room k X.A ∧ X.mg x = some (.ref f) ∧ PySem.W.keepIn X.K (.ref f) = true ∧ Binds X.K fd ps []
inductive BReps (K : PySem.W.Frag) (T : Tp) (M : Addr → Prop) (H : Hp) : List V → List D → Prop
  | nil : BReps K T M H [] []
  | cons {v : V} {vs : List V} {d : D} {ds : List D} : BRep K T M H v d → BReps K T M H vs ds → BReps K T M H (v :: vs) (d :: ds)
def tBA (K : PySem.W.Frag) (f : FEs) : TA := fun σ H Q => ∃ g M env Qd, SR K g M σ H env ∧ f env Qd ∧ ∀ d v H', Qd d → Grow K g.T M H H' → BReps K g.T M H' v d → Q v H'
abbrev PBA (X : Cx) (es : List Expr) (f : FEs) : Prop := PA X es (tBA X.K f)
section
variable {K : PySem.W.Frag} {T : Tp} {M : Addr → Prop} {H H1 H' : Hp} {v : V} {d : D}
theorem BReps.inv_nil {vs : List V} (r : BReps K T M H vs []) : vs = [] := by cases r; rfl
theorem BReps.inv_cons {vs : List V} {d : D} {ds : List D} (r : BReps K T M H vs (d :: ds)) : ∃ v us, vs = v :: us ∧ BRep K T M H v d ∧ BReps K T M H us ds := by
  cases r with
  | cons a b => exact ⟨_, _, rfl, a, b⟩
theorem BReps.one {vs : List V} {d : D} (r : BReps K T M H vs [d]) : ∃ v, vs = [v] ∧ BRep K T M H v d := by
  obtain ⟨v, us, e, r1, r2⟩ := r.inv_cons
  rw [r2.inv_nil] at e
  exact ⟨v, e, r1⟩
theorem BReps.two {vs : List V} {d d' : D} (r : BReps K T M H vs [d, d']) : ∃ v v', vs = [v, v'] ∧ BRep K T M H v d ∧ BRep K T M H v' d' := by
  obtain ⟨v, us, e, r1, r2⟩ := r.inv_cons
  obtain ⟨v', e', r3⟩ := r2.one
  rw [e'] at e
  exact ⟨v, v', e, r1, r3⟩
/-- a built-in of data -/
def CallA (K : PySem.W.Frag) (r : List V → Hp → VK → Prop) (φ : Fn) : Prop :=
  ∀ (T : Tp) (M : Addr → Prop) (H : Hp) (xs : List V) (ds : List D) (Q : VK) (Qd : D → Prop), Wd K T M H → BReps K T M H xs ds → φ ds Qd → (∀ d v H', Qd d → Grow K T M H H' → Rep K T M H' v d → Q v H') → r xs H Q
/-- .. that makes a list -/
def CallF (K : PySem.W.Frag) (r : List V → Hp → VK → Prop) (φ : Fn) : Prop :=
  ∀ (T : Tp) (M : Addr → Prop) (H : Hp) (xs : List V) (ds : List D) (Q : VK) (Qd : D → Prop), Wd K T M H → BReps K T M H xs ds → φ ds Qd → (∀ d v H', Qd d → Grow K T M H H' → FRep K T M H H' v d → Q v H') → r xs H Q
theorem FRep.back (w : Wd K T M H) (g : Grow K T M H H1) (h : FRep K T M H1 H' v d) : FRep K T M H H' v d := by
  obtain ⟨l, e, n, r⟩ := h
  refine ⟨l, e, ?_, r⟩
  cases q : H l with
  | none => rfl
  | some o =>
    by_cases e2 : l = T.t
    · subst e2; exact absurd n g.tape.ne
    · rw [g.keep l o e2 q] at n; cases n
/-- a new list at p -/
theorem FRep.lst {p : Addr} {vs : List V} {ds : List D} (w : Wd K T M H) (hp : H p = none) (r : Reps K T M H vs ds) : FRep K T M H (upd H p (.lst vs)) (.ref p) (.lst ds) := by
  have g2 : Grow K T M H (upd H p (.lst vs)) := .new w hp
  exact ⟨p, rfl, hp, vs, upd_same, Reps.keep (fun a h z => z.elim id fun z => absurd h (by rw [z, hp]; simp)) (fun a o n h => g2.keep a o (fun e => n (e ▸ w.mT)) h) ds vs r⟩
end
section
variable {X : Cx} {e : Expr} {es : List Expr} {f : FE} {fs : FEs} {p pos : Pos} {x : Str} {φ : Fn} {id T : String} {r : List V → Hp → VK → Prop}
theorem pp_call (F : Df X x φ) (hg : Gl X x) (ha : PPA X (e :: es) fs)
    (hdb : (x == ("__debug__" : Str)) = false := by decide) (he : starEach (e :: es) X.env = (false, eval e X.env) :: starEach es X.env := by rfl) (hpl : (backTo pos (starEach es X.env)).any (·.1) = false := by rfl) :
    PP X (.Call (.Name x p) (e :: es) [] pos) (wCall φ fs) := by
  obtain ⟨k, f, fd, ps, F, hr, hm, hk, hb⟩ := F.ex
  refine (pe_call F hr hg hm hk hb .nil pass0 ha hdb he hpl).imp fun σ H Q ⟨g, M, env, Qd, s, q, k⟩ => ⟨g, M, env, _, s, q, fun ds vs H1 q1 g1 r1 => ?_⟩
  exact ⟨g.T, M, ds, Qd, (s.grow g1).wd, by rw [List.append_nil]; exact r1, q1, fun d v H' a b c => k d v H' a (g1.trans b) c⟩
theorem pba_nil : PBA X [] wNil := pa_nil.imp fun σ H Q ⟨g, M, env, Qd, s, q, k⟩ => k _ _ H q (.refl s.wd) .nil
theorem Wd.breps {K : PySem.W.Frag} {T : Tp} {M : Addr → Prop} {H H' : Hp} (w : Wd K T M H) (g : Grow K T M H H') : ∀ {vs : List V} {ds : List D}, BReps K T M H vs ds → BReps K T M H' vs ds
  | _, _, .nil => .nil
  | _, _, .cons a b => .cons (w.brep g a) (w.breps g b)
theorem pba_cons (ha : PB X e f) (hr : PBA X es fs) (hs : starEach (e :: es) X.env = (false, eval e X.env) :: starEach es X.env := by rfl) : PBA X (e :: es) (wCons f fs) :=
  (pa_cons ha hr hs).imp fun σ H Q ⟨g, M, env, Qd, s, q, k⟩ => ⟨g, M, env, _, s, q, fun d v H1 q1 g1 r1 => by
    have s1 := s.grow g1
    exact ⟨g, M, env, _, s1, q1, fun ds vs H2 q2 g2 r2 => k _ _ H2 q2 (g1.trans g2) (.cons (s1.wd.brep g2 r1) r2)⟩⟩
theorem tCB_of {K : PySem.W.Frag} (hφ : CallA K r φ) (σ : L2.St) (H : Hp) (Q : VK) (h : tP K (wCall φ fs) σ H Q) : tCB r (tBA K fs) σ H Q := by
  obtain ⟨g, M, env, Qd, s, q, k⟩ := h
  exact ⟨g, M, env, _, s, q, fun ds vs H1 q1 g1 r1 => hφ g.T M H1 vs ds Q Qd (s.grow g1).wd r1 q1 fun d v H' a b c => k d v H' a (g1.trans b) c⟩
theorem tCF_of {K : PySem.W.Frag} (hφ : CallF K r φ) (σ : L2.St) (H : Hp) (Q : VK) (h : tF K (wCall φ fs) σ H Q) : tCB r (tBA K fs) σ H Q := by
  obtain ⟨g, M, env, Qd, s, q, k⟩ := h
  exact ⟨g, M, env, _, s, q, fun ds vs H1 q1 g1 r1 => hφ g.T M H1 vs ds Q Qd (s.grow g1).wd r1 q1 fun d v H' a b c => k d v H' a (g1.trans b) (c.back s.wd g1)⟩
theorem pp_callB (hc : CallR X (.builtin id) r) (hφ : CallA X.K r φ) (hg : Gl X x) (hm : X.mg x = none) (hv : bootBuiltins x = some (.builtin id)) (ha : PBA X (e :: es) fs) (hn : x ≠ "__name__" := by decide) (hdb : (x == ("__debug__" : Str)) = false := by decide)
    (he : starEach (e :: es) X.env = (false, eval e X.env) :: starEach es X.env := by rfl) (hpl : (backTo pos (starEach es X.env)).any (·.1) = false := by rfl) : PP X (.Call (.Name x p) (e :: es) [] pos) (wCall φ fs) :=
  (pe_callB hc hg hm hv ha hn hdb he hpl).imp fun σ H Q h => tCB_of hφ σ H Q h
theorem pp_callTy (hc : CallR X (.type T) r) (hφ : CallA X.K r φ) (hg : Gl X x) (hm : X.mg x = none) (hv : bootBuiltins x = some (.type T)) (ha : PBA X (e :: es) fs) (hn : x ≠ "__name__" := by decide) (hdb : (x == ("__debug__" : Str)) = false := by decide)
    (he : starEach (e :: es) X.env = (false, eval e X.env) :: starEach es X.env := by rfl) (hpl : (backTo pos (starEach es X.env)).any (·.1) = false := by rfl) : PP X (.Call (.Name x p) (e :: es) [] pos) (wCall φ fs) :=
  (pe_callTy hc hg hm hv ha hn hdb he hpl).imp fun σ H Q h => tCB_of hφ σ H Q h
theorem pf_callTy (hc : CallR X (.type T) r) (hφ : CallF X.K r φ) (hg : Gl X x) (hm : X.mg x = none) (hv : bootBuiltins x = some (.type T)) (ha : PBA X (e :: es) fs) (hn : x ≠ "__name__" := by decide) (hdb : (x == ("__debug__" : Str)) = false := by decide)
    (he : starEach (e :: es) X.env = (false, eval e X.env) :: starEach es X.env := by rfl) (hpl : (backTo pos (starEach es X.env)).any (·.1) = false := by rfl) : PF X (.Call (.Name x p) (e :: es) [] pos) (wCall φ fs) :=
  (pe_callTy hc hg hm hv ha hn hdb he hpl).imp fun σ H Q h => tCF_of hφ σ H Q h
theorem pf_callB (hc : CallR X (.builtin id) r) (hφ : CallF X.K r φ) (hg : Gl X x) (hm : X.mg x = none) (hv : bootBuiltins x = some (.builtin id)) (ha : PBA X (e :: es) fs) (hn : x ≠ "__name__" := by decide) (hdb : (x == ("__debug__" : Str)) = false := by decide)
    (he : starEach (e :: es) X.env = (false, eval e X.env) :: starEach es X.env := by rfl) (hpl : (backTo pos (starEach es X.env)).any (·.1) = false := by rfl) : PF X (.Call (.Name x p) (e :: es) [] pos) (wCall φ fs) :=
  (pe_callB hc hg hm hv ha hn hdb he hpl).imp fun σ H Q h => tCF_of hφ σ H Q h
theorem pp_callG (hc : CallR X (.builtin id) r) (hφ : CallA X.K r φ) (hg : Gl X x) (hm : X.mg x = some (.builtin id)) (ha : PBA X (e :: es) fs) (hdb : (x == ("__debug__" : Str)) = false := by decide)
    (he : starEach (e :: es) X.env = (false, eval e X.env) :: starEach es X.env := by rfl) (hpl : (backTo pos (starEach es X.env)).any (·.1) = false := by rfl) : PP X (.Call (.Name x p) (e :: es) [] pos) (wCall φ fs) :=
  (pe_callBfun hc hg hm ha hdb he hpl).imp fun σ H Q h => tCB_of hφ σ H Q h
end
/-! ### the built-ins -/
section
variable {X : Cx} {K : PySem.W.Frag}
theorem c_len : CallA K (fun xs H Q => ∃ x n, xs = [x] ∧ LenV K x H n ∧ Q (.int n) H) bLen := by
  intro T M H xs ds Q Qd w rs q k
  unfold bLen at q
  split at q
  · obtain ⟨v, rfl, r⟩ := rs.one
    obtain ⟨a, vs, rfl, h, r2⟩ := r.lst
    exact ⟨_, vs.length, rfl, .inl ⟨vs, .of h, rfl⟩, by rw [r2.length]; exact k _ _ _ q (.refl w) (.int _)⟩
  · obtain ⟨v, rfl, r⟩ := rs.one
    obtain ⟨a, vs, rfl, h, r2⟩ := r.tup
    exact ⟨_, vs.length, rfl, .inr ⟨vs, h, rfl⟩, by rw [r2.length]; exact k _ _ _ q (.refl w) (.int _)⟩
  · obtain ⟨v, rfl, r⟩ := rs.one
    exact ⟨_, _, rfl, by rw [r.str]; exact ⟨by rw [line_eq]; exact q.1, rfl⟩, k _ _ _ q.2 (.refl w) (.int _)⟩
  · exact q.elim
theorem c_abs : CallA K (fun xs H Q => ∃ i, xs = [.int i] ∧ Q (.int (if i < 0 then -i else i)) H) bAbs := by
  intro T M H xs ds Q Qd w rs q k
  unfold bAbs at q
  split at q
  · rename_i i
    obtain ⟨v, rfl, r⟩ := rs.one
    refine ⟨i, by rw [r.int], ?_⟩
    have e : (if i < 0 then -i else i) = (i.natAbs : Int) := by split <;> omega
    rw [e]
    exact k _ _ _ q (.refl w) (.int _)
  · exact q.elim
theorem c_max2 : CallA K (fun xs H Q => ∃ i j, xs = [.int i, .int j] ∧ Q (.int (if j > i then j else i)) H) bMax2 := by
  intro T M H xs ds Q Qd w rs q k
  unfold bMax2 at q
  split at q
  · rename_i i j
    obtain ⟨v, v', rfl, r, r'⟩ := rs.two
    refine ⟨i, j, by rw [r.int, r'.int], ?_⟩
    have e : (if j > i then j else i) = max i j := by split <;> omega
    rw [e]
    exact k _ _ _ q (.refl w) (.int _)
  · exact q.elim
theorem c_min2 : CallA K (fun xs H Q => ∃ i j, xs = [.int i, .int j] ∧ Q (.int (if j < i then j else i)) H) bMin2 := by
  intro T M H xs ds Q Qd w rs q k
  unfold bMin2 at q
  split at q
  · rename_i i j
    obtain ⟨v, v', rfl, r, r'⟩ := rs.two
    refine ⟨i, j, by rw [r.int, r'.int], ?_⟩
    have e : (if j < i then j else i) = min i j := by split <;> omega
    rw [e]
    exact k _ _ _ q (.refl w) (.int _)
  · exact q.elim
theorem c_int : CallA K (fun xs H Q => (∃ i, xs = [.int i] ∧ Q (.int i) H) ∨ ∃ k, xs = [.bl k] ∧ Q (.int (if k then 1 else 0)) H) bInt := by
  intro T M H xs ds Q Qd w rs q k
  unfold bInt at q
  split at q
  · obtain ⟨v, rfl, r⟩ := rs.one
    exact .inl ⟨_, by rw [r.int], k _ _ _ q (.refl w) (.int _)⟩
  · obtain ⟨v, rfl, r⟩ := rs.one
    exact .inr ⟨_, by rw [r.bl], k _ _ _ q (.refl w) (.int _)⟩
  · exact q.elim
theorem c_gcd : CallA K rGcd bGcd := by
  intro T M H xs ds Q Qd w rs q k
  unfold bGcd at q
  split at q
  · obtain ⟨v, v', rfl, r, r'⟩ := rs.two
    exact ⟨_, _, by rw [r.int, r'.int], k _ _ _ q (.refl w) (.int _)⟩
  · exact q.elim
theorem f_list : CallF K (fun xs H Q => ∃ p ys, xs = [.ref p] ∧ (SqL K H p ys ∨ SqT K H p ys) ∧ ∀ l, H l = none → Q (.ref l) (upd H l (.lst ys))) bList := by
  intro T M H xs ds Q Qd w rs q k
  unfold bList at q
  split at q
  · obtain ⟨v, rfl, r⟩ := rs.one
    obtain ⟨a, vs, rfl, h, r2⟩ := r.lst
    exact ⟨a, vs, rfl, .inl (.of h), fun l hl => k _ _ _ q (.new w hl) (.lst w hl r2)⟩
  · obtain ⟨v, rfl, r⟩ := rs.one
    obtain ⟨a, vs, rfl, h, r2⟩ := r.tup
    exact ⟨a, vs, rfl, .inr h, fun l hl => k _ _ _ q (.new w hl) (.lst w hl r2)⟩
  · exact q.elim
theorem c_tuple : CallA K (fun xs H Q => ∃ p ys, xs = [.ref p] ∧ ((SqL K H p ys ∧ ∀ l, H l = none → Q (.ref l) (upd H l (.tup ys))) ∨ (SqT K H p ys ∧ Q (.ref p) H))) bTuple := by
  intro T M H xs ds Q Qd w rs q k
  unfold bTuple at q
  split at q
  · obtain ⟨v, rfl, r⟩ := rs.one
    obtain ⟨a, vs, rfl, h, r2⟩ := r.lst
    refine ⟨a, vs, rfl, .inl ⟨.of h, fun l hl => ?_⟩⟩
    have g : Grow K T M H (upd H l (.tup vs)) := .new w hl
    exact k _ _ _ q g (.tup upd_same (w.fresh hl) (w.reps g r2))
  · obtain ⟨v, rfl, r⟩ := rs.one
    obtain ⟨a, vs, rfl, h, r2⟩ := r.tup
    rcases r with r | ⟨_, _, _, _, z⟩
    · exact ⟨a, vs, rfl, .inr ⟨h, k _ _ _ q (.refl w) r⟩⟩
    · exact z.elim
  · exact q.elim
theorem ints_reps {T : Tp} {M : Addr → Prop} {H : Hp} : ∀ {ds : List D} {vs : List V} {ns : List Int}, Reps K T M H vs ds → intsD ds = some ns → vs = ns.map V.int
  | [], _, ns, r, e => by cases r; cases e; rfl
  | d :: ds, _, ns, r, e => by
    cases r with
    | cons r1 r2 =>
      cases r1 <;> simp [intsD] at e
      obtain ⟨ms, e1, rfl⟩ := e
      rw [ints_reps r2 e1]; rfl
theorem bools_reps {T : Tp} {M : Addr → Prop} {H : Hp} : ∀ {ds : List D} {vs : List V} {ns : List Bool}, Reps K T M H vs ds → boolsD ds = some ns → vs = ns.map V.bl
  | [], _, ns, r, e => by cases r; cases e; rfl
  | d :: ds, _, ns, r, e => by
    cases r with
    | cons r1 r2 =>
      cases r1 <;> simp [boolsD] at e
      obtain ⟨ms, e1, rfl⟩ := e
      rw [bools_reps r2 e1]; rfl
theorem c_sum : CallA K (rSum K) bSum := by
  intro T M H xs ds Q Qd w rs q k
  unfold bSum at q
  split at q
  · obtain ⟨ns, e, q⟩ := q
    obtain ⟨v, rfl, r⟩ := rs.one
    obtain ⟨a, vs, rfl, h, r2⟩ := r.lst
    rw [ints_reps r2 e] at h
    exact ⟨a, ns, rfl, .of h, k _ _ _ q (.refl w) (.int _)⟩
  · exact q.elim
theorem c_all : CallA K (rAll K) bAll := by
  intro T M H xs ds Q Qd w rs q k
  unfold bAll at q
  split at q
  · obtain ⟨ns, e, q⟩ := q
    obtain ⟨v, rfl, r⟩ := rs.one
    obtain ⟨a, vs, rfl, h, r2⟩ := r.lst
    rw [bools_reps r2 e] at h
    exact ⟨a, ns, rfl, .of h, k _ _ _ q (.refl w) (.bl _)⟩
  · exact q.elim
theorem c_any : CallA K (rAny K) bAny := by
  intro T M H xs ds Q Qd w rs q k
  unfold bAny at q
  split at q
  · obtain ⟨ns, e, q⟩ := q
    obtain ⟨v, rfl, r⟩ := rs.one
    obtain ⟨a, vs, rfl, h, r2⟩ := r.lst
    rw [bools_reps r2 e] at h
    exact ⟨a, ns, rfl, .of h, k _ _ _ q (.refl w) (.bl _)⟩
  · exact q.elim
end
end Pl
end

section
set_option Elab.async false
set_option linter.all false
set_option maxRecDepth 100000
set_option maxHeartbeats 1000000
set_option autoImplicit false
namespace Pl
open PySem PySem.Spec PyProof.Rows L2
section
variable {X : Cx} {K : PySem.W.Frag}
/-- a module's constant -/
theorem pp_glob {x : Str} {v : V} {u : Value} {d : D} {pos : Pos} (hg : Gl X x) (hm : X.mg x = some u) (rv : RelV v u) (r : ∀ T M H, Rep X.K T M H v d) (hd : (x == ("__debug__" : Str)) = false := by decide) : PP X (.Name x pos) (wC d) :=
  (pe_glob hg hm rv hd).imp fun σ H Q ⟨g, M, env, Qd, s, q, k⟩ => k d v H q (.refl s.wd) (r _ _ _)
/-! ### slices -/
theorem sIxD_eq (n d : Nat) (o : Option Int) : sIxD n d o = HT.sIx n d o := by cases o <;> rfl
def tO (K : PySem.W.Frag) (f : FO) : TO := fun σ H Q => ∃ g M env Qd, SR K g M σ H env ∧ f env Qd ∧ ∀ o H', Qd o → Grow K g.T M H H' → Q o H'
abbrev PPO (X : Cx) (e : Option Expr) (f : FO) : Prop := PO X e (tO X.K f)
theorem _root_.L2.PO.imp {e : Option Expr} {t t' : TO} (h : PO X e t) (w : ∀ σ H Q, t' σ H Q → t σ H Q) : PO X e t' := ⟨fun pins s σ H Q I q => h.run pins s σ H Q I (w _ _ _ q)⟩
theorem ppo_none : PPO X none wNoP := po_none.imp fun σ H Q ⟨g, M, env, Qd, s, q, k⟩ => k _ _ q (.refl s.wd)
theorem ppo_some {e : Expr} {f : FE} (h : PP X e f) : PPO X (some e) (wP f) := (po_some h).imp fun σ H Q ⟨g, M, env, Qd, s, q, k⟩ => ⟨g, M, env, _, s, q, fun d v H1 q1 g1 r1 => by
  split at q1
  · exact ⟨_, r1.b.int, k _ _ q1 g1⟩
  · exact q1.elim⟩
theorem Reps.cut {T : Tp} {M : Addr → Prop} {H : Hp} {vs : List V} {ds : List D} (r : Reps K T M H vs ds) (lo hi : Option Int) : Reps K T M H (cutV vs lo hi) (cutD ds lo hi) := by
  unfold cutV cutD
  rw [sIxD_eq, sIxD_eq, r.length]
  exact (r.drop _).take _
theorem pf_slice {e : Expr} {lo hi : Option Expr} {f : FE} {fl fh : FO} {pos p2 : Pos} (he : PB X e f) (hl : PPO X lo fl) (hh : PPO X hi fh)
    : PF X (.Subscript e (.Slice lo hi none p2) pos) (wSlice f fl fh) :=
  PE.imp (pe_slice sl_list he hl hh) fun σ H Q ⟨g, M, env, Qd, s, q, k⟩ => ⟨g, M, env, _, s, q, fun d v H1 q1 g1 r1 => by
    have s1 := s.grow g1
    refine ⟨g, M, env, _, s1, q1, fun o H2 q2 g2 => ?_⟩
    have s2 := s1.grow g2
    refine ⟨g, M, env, _, s2, q2, fun o' H3 q3 g3 => ?_⟩
    have s3 := s2.grow g3
    split at q3
    · have r3 := s2.wd.brep g3 (s1.wd.brep g2 r1)
      obtain ⟨a, vs, e1, h, rs⟩ := r3.lst
      refine ⟨a, vs, e1, .of h, fun p hp => ?_⟩
      exact k _ _ _ q3 (((g1.trans g2).trans g3).trans (.new s3.wd hp)) ((FRep.lst s3.wd hp (rs.cut _ _)).back s.wd ((g1.trans g2).trans g3))
    · exact q3.elim⟩
/-! ### fields -/
theorem fLook_ok {T : Tp} {M : Addr → Prop} {H : Hp} {x : Str} : ∀ {ns : List Str} {vs : List V} {ds : List D} {d : D}, Reps K T M H vs ds → fLook x ns ds = some d → ∃ v, (ns.zip vs).lookup x = some v ∧ Rep K T M H v d
  | [], _, _, _, _, e => by cases e
  | n :: ns, _, [], _, _, e => by cases e
  | n :: ns, _, d :: ds, d', r, e => by
    cases r with
    | @cons v vs _ _ r1 r2 =>
      unfold fLook at e
      by_cases h : x = n
      · rw [if_pos h] at e
        cases e
        refine ⟨v, ?_, r1⟩
        rw [List.zip_cons_cons, List.lookup_cons, beq_iff_eq.mpr h]
      · rw [if_neg h] at e
        obtain ⟨v', e1, r'⟩ := fLook_ok r2 e
        refine ⟨v', ?_, r'⟩
        rw [List.zip_cons_cons, List.lookup_cons, beq_eq_false_iff_ne.mpr h]
        exact e1
theorem BRep.obj {T : Tp} {M : Addr → Prop} {H : Hp} {v : V} {c : Str} {ns : List Str} {ds : List D} (r : BRep K T M H v (.obj c ns ds)) : ∃ a dx vs, v = .ref a ∧ H a = some (.ins (He.ga K c) dx (ns.zip vs)) ∧ ns.length = vs.length ∧ Reps K T M H vs ds := by
  rcases r with r | ⟨l, e, _, _, C, dx, vs, h, hc, hl, r, _⟩
  · cases r with
    | obj h1 hc h2 hl h3 => subst hc; exact ⟨_, _, _, rfl, h1, hl, h3⟩
  · subst hc; exact ⟨_, _, _, e, h, hl, r⟩
theorem pp_fld {e : Expr} {f : FE} {c x : Str} {pos : Pos} (he : PB X e f) (cl : Cls X.K (He.ga X.K c)) (na : NoAttr X.K (He.ga X.K c) x) (hb : attributeBase e x X.env (eval e X.env) = eval e X.env := by rfl) : PP X (.Attribute e x pos) (wFld f c x) :=
  PE.imp (pe_fld he hb) fun σ H Q ⟨g, M, env, Qd, s, q, k⟩ => ⟨g, M, env, _, s, q, fun d v H1 q1 g1 r1 => by
    unfold dFld at q1
    split at q1
    · obtain ⟨e1, d', e2, q2⟩ := q1
      subst e1
      obtain ⟨a, dx, vs, ev, h, hl, rs⟩ := r1.obj
      obtain ⟨u, lu, ru⟩ := fLook_ok rs e2
      exact ⟨a, _, dx, _, u, ev, h, cl, na, lu, k _ _ _ q2 g1 ru⟩
    · exact q1.elim⟩
/-! ### stores -/
section
variable {g : Gh} {M M' : Addr → Prop} {σ : L2.St} {H H' : Hp} {env : AEnv} {i : Nat} {v : V} {d : D}
theorem getD_set_self {α : Type} {l : List α} {i : Nat} {a d : α} (h : i < l.length) : (l.set i a).getD i d = a := by
  rw [List.getD_eq_getElem?_getD, List.getElem?_set_self h]; rfl
theorem getD_set_ne {α : Type} {l : List α} {i j : Nat} {a d : α} (h : i ≠ j) : (l.set i a).getD j d = l.getD j d := by
  rw [List.getD_eq_getElem?_getD, List.getD_eq_getElem?_getD, List.getElem?_set_ne h]
theorem SR.set {s : Slot} {o : Option V} (r : SR K g M σ H env) (h : SlotOk K g M H o s) (hd : ∀ d, s ≠ .own d) : SR K g M (σ.set i o) H (env.set i s) where
  wd := r.wd
  m0 := r.m0
  mh := r.mh
  gr := r.gr
  len := by simp [r.len]
  sl := fun j x e => by
    by_cases ij : i = j
    · subst ij
      by_cases hl : i < env.length
      · rw [List.getElem?_set_self hl] at e
        cases e
        rw [getD_set_self (by rw [r.len]; exact hl)]
        exact h
      · rw [List.getElem?_eq_none (by simpa using hl)] at e
        cases e
    · rw [List.getElem?_set_ne ij] at e
      rw [getD_set_ne ij]
      exact r.sl j x e
  dis := fun j k l d e jk e1 e2 e3 e4 => by
    have no : ∀ (j : Nat) (d : D), (env.set i s)[j]? = some (.own d) → i ≠ j := fun j d e ij => by
      subst ij
      by_cases hl : i < env.length
      · rw [List.getElem?_set_self hl] at e
        exact hd d (Option.some.inj e)
      · rw [List.getElem?_eq_none (by simpa using hl)] at e
        cases e
    have n1 := no j d e1
    have n2 := no k e e2
    rw [List.getElem?_set_ne n1] at e1 e3
    rw [List.getElem?_set_ne n2] at e2 e4
    exact r.dis j k l d e jk e1 e2 e3 e4
theorem SR.setV (r : SR K g M σ H env) (h : Rep K g.T M H v d) : SR K g M (σ.set i (some v)) H (env.set i (.val d)) := r.set ⟨v, rfl, h⟩ fun _ => by simp
/-- a fresh object gets a name -/
theorem SR.setO (r : SR K g M σ H env) (g1 : Grow K g.T M H H') (h : FRep K g.T M H H' v d) : ∃ M', SR K g M' (σ.set i (some v)) H' (env.set i (.own d)) := by
  obtain ⟨l, e, n, rs⟩ := h
  subst e
  have r1 := r.grow g1
  have lT : l ≠ g.T.t := fun z => by subst z; exact r.wd.tape.ne n
  have h0 : g.H0 l = none := by
    cases q : g.H0 l with
    | none => rfl
    | some o => rw [r.gr l o lT q] at n; cases n
  have notM : ∀ a, H a ≠ none → a ≠ l := fun a h z => h (by rw [z]; exact n)
  have hl' : H' l ≠ none := by
    cases d <;> first | exact rs.elim | (obtain ⟨_, h, _⟩ := rs; rw [h]; simp) | (obtain ⟨_, _, _, h, _⟩ := rs; rw [h]; simp)
  have kp : ∀ {s : Slot} {o : Option V}, SlotOk K g M H o s → SlotOk K g (fun a => M a ∨ a = l) H' o s := fun {s o} q =>
    SlotOk.keep (fun a h z => z.elim id fun z => absurd z (notM a h)) (fun a z => .inl z) (fun a o n h => g1.keep a o (fun e => n (e ▸ r.wd.mT)) h) (fun l' d' e1 e2 o' h' => by
      subst e1
      obtain ⟨l2, e3, _, nT, _⟩ := q
      rw [e2] at e3; cases e3
      exact g1.keep _ _ nT h') q
  have tp : TapeOk K (fun a => M a ∨ a = l) H' g.T := by
    obtain ⟨k, acc, mix, cells, h1, h2, h3, rr⟩ := g1.tape
    refine ⟨k, acc, mix, cells, h1, h2, fun z => z.elim h3 fun z => ?_, rr⟩
    obtain ⟨_, _, _, _, _, h4, _⟩ := r.wd.tape
    rw [z, n] at h4
    cases h4
  -- no slot of own holds l
  have ownl : ∀ (j : Nat) (e : D) (l2 : Addr), env[j]? = some (.own e) → σ[j]? = some (some (.ref l2)) → l2 ≠ l := fun j e l2 e1 e2 z => by
    have q := r.sl j _ e1
    rw [List.getD_eq_getElem?_getD, e2] at q
    obtain ⟨l3, e3, _, _, _, q⟩ := q
    cases e3
    subst z
    cases e <;> first | exact q.elim | (obtain ⟨_, h, _⟩ := q; rw [n] at h; cases h) | (obtain ⟨_, _, _, h, _⟩ := q; rw [n] at h; cases h)
  refine ⟨fun a => M a ∨ a = l, ⟨tp, .inl r.wd.mT, fun a z => z.elim (fun z => r1.wd.md a z) fun z => by rw [z]; exact hl'⟩, fun a z => .inl (r.m0 a z), fun a z => z.elim (fun z => r.mh a z) fun z => .inr (by rw [z]; exact h0), r1.gr, by simp [r.len], fun j x e => ?_, fun j k l1 d1 e1 jk ej ek sj sk => ?_⟩
  · by_cases ij : i = j
    · subst ij
      by_cases hl : i < env.length
      · rw [List.getElem?_set_self hl] at e
        cases e
        rw [getD_set_self (by rw [r.len]; exact hl)]
        exact ⟨l, rfl, .inr rfl, lT, h0, rs⟩
      · rw [List.getElem?_eq_none (by simpa using hl)] at e
        cases e
    · rw [List.getElem?_set_ne ij] at e
      rw [getD_set_ne ij]
      exact kp (r.sl j x e)
  · by_cases ij : i = j
    · subst ij
      rw [List.getElem?_set_ne jk] at ek sk
      by_cases hl : i < σ.length
      · rw [List.getElem?_set_self hl] at sj
        cases sj
        exact ownl k e1 _ ek sk rfl
      · rw [List.getElem?_eq_none (by simpa using hl)] at sj
        cases sj
    · by_cases ik : i = k
      · subst ik
        rw [List.getElem?_set_ne ij] at ej sj
        by_cases hl : i < σ.length
        · rw [List.getElem?_set_self hl] at sk
          cases sk
          exact ownl j d1 _ ej sj rfl
        · rw [List.getElem?_eq_none (by simpa using hl)] at sk
          cases sk
      · rw [List.getElem?_set_ne ij] at ej sj
        rw [List.getElem?_set_ne ik] at ek sk
        exact r.dis j k l1 d1 e1 jk ej ek sj sk
/-- an own object is changed -/
theorem SR.mut {l : Addr} {o : HO} {d' : D} (r : SR K g M σ H env) (ei : env[i]? = some (.own d)) (es : σ[i]? = some (some (.ref l))) (q : OwnR K g.T M (upd H l o) l d') : SR K g M σ (upd H l o) (env.set i (.own d')) := by
  have hi : i < env.length := by
    rcases Nat.lt_or_ge i env.length with h | h
    · exact h
    · rw [List.getElem?_eq_none h] at ei; cases ei
  have q0 := r.sl i _ ei
  rw [List.getD_eq_getElem?_getD, es] at q0
  obtain ⟨l0, e0, ml, lT, h0, q0⟩ := q0
  cases e0
  have cne : g.T.c ≠ l := fun z => by
    obtain ⟨_, _, _, _, _, _, h3, _⟩ := r.wd.tape
    rw [z] at h3
    exact h3 ml
  have tp : TapeOk K M (upd H l o) g.T := by
    obtain ⟨k, acc, mix, cells, h1, h2, h3, rr⟩ := r.wd.tape
    exact ⟨k, acc, mix, cells, by rw [upd_ne (Ne.symm lT)]; exact h1, by rw [upd_ne cne]; exact h2, h3, rr⟩
  refine ⟨⟨tp, r.wd.mT, fun a z => ?_⟩, r.m0, r.mh, fun a u n e => ?_, by simp [r.len], fun j x e => ?_, fun j k l1 d1 e1 jk ej ek sj sk => ?_⟩
  · by_cases al : a = l
    · rw [al, upd_same]; simp
    · rw [upd_ne al]; exact r.wd.md a z
  · have al : a ≠ l := fun z => by rw [z, h0] at e; cases e
    rw [upd_ne al]
    exact r.gr a u n e
  · by_cases ij : i = j
    · subst ij
      rw [List.getElem?_set_self hi] at e
      cases e
      rw [List.getD_eq_getElem?_getD, es]
      exact ⟨l, rfl, ml, lT, h0, q⟩
    · rw [List.getElem?_set_ne ij] at e
      have qj := r.sl j x e
      refine SlotOk.keep (fun _ _ z => z) (fun _ z => z) (fun a u n h => by rw [upd_ne (fun z => n (by rw [z]; exact ml))]; exact h) (fun l2 d2 e1 e2 u h => ?_) qj
      subst e1
      have hj : j < σ.length := by
        rcases Nat.lt_or_ge j σ.length with h | h
        · exact h
        · rw [List.getD_eq_getElem?_getD, List.getElem?_eq_none h] at e2; cases e2
      have e3 : σ[j]? = some (some (.ref l2)) := by
        rw [List.getD_eq_getElem?_getD, List.getElem?_eq_getElem hj] at e2
        rw [List.getElem?_eq_getElem hj]
        exact congrArg some e2
      have ne : l2 ≠ l := fun z => by
        subst z
        exact r.dis i j l2 d d2 ij ei e es e3
      rw [upd_ne ne]
      exact h
  · have back : ∀ (j : Nat) (d1 : D), (env.set i (.own d'))[j]? = some (.own d1) → ∃ d2, env[j]? = some (.own d2) := fun j d1 e => by
      by_cases ij : i = j
      · subst ij; exact ⟨d, ei⟩
      · rw [List.getElem?_set_ne ij] at e; exact ⟨d1, e⟩
    obtain ⟨d2, e2⟩ := back j d1 ej
    obtain ⟨d3, e3⟩ := back k e1 ek
    exact r.dis j k l1 d2 d3 jk e2 e3 sj sk
/-- an own object becomes a value -/
theorem SR.frz (r : SR K g M σ H env) (ei : env[i]? = some (.own d)) : ∃ M', SR K g M' σ H (env.set i (.val d)) := by
  have hi : i < env.length := by
    rcases Nat.lt_or_ge i env.length with h | h
    · exact h
    · rw [List.getElem?_eq_none h] at ei; cases ei
  obtain ⟨o, es, l, e, ml, lT, h0, q0⟩ := r.slot ei
  subst e
  have nM0 : ¬ g.M0 l := fun z => g.d l z h0
  -- the other slots stand apart from l
  refine ⟨fun a => M a ∧ a ≠ l, ⟨r.wd.tape.mono fun a _ z => z.1, ⟨r.wd.mT, Ne.symm lT⟩, fun a z => r.wd.md a z.1⟩, fun a z => ⟨r.m0 a z, fun e => nM0 (by rw [← e]; exact z)⟩, fun a z => r.mh a z.1, r.gr, by simp [r.len], fun j x e => ?_, fun j k l1 d1 e1 jk ej ek sj sk => ?_⟩
  · by_cases ij : i = j
    · subst ij
      rw [List.getElem?_set_self hi] at e
      cases e
      rw [List.getD_eq_getElem?_getD, es]
      exact ⟨_, rfl, OwnR.rep (M' := M) (M := fun a => M a ∧ a ≠ l) (fun a z => z.1) (fun z => z.2 rfl) q0⟩
    · rw [List.getElem?_set_ne ij] at e
      have qj := r.sl j x e
      cases x with
      | non => exact True.intro
      | val d2 =>
        obtain ⟨v2, e2, r2⟩ := qj
        exact ⟨v2, e2, Rep.keep (fun _ _ z => z.1) (fun _ _ _ h => h) _ _ r2⟩
      | own d2 =>
        obtain ⟨l2, e2, m2, nT2, h02, r2⟩ := qj
        have hj : j < σ.length := by
          rcases Nat.lt_or_ge j σ.length with h | h
          · exact h
          · rw [List.getD_eq_getElem?_getD, List.getElem?_eq_none h] at e2; cases e2
        have e3 : σ[j]? = some (some (.ref l2)) := by
          rw [List.getD_eq_getElem?_getD, List.getElem?_eq_getElem hj] at e2
          rw [List.getElem?_eq_getElem hj]
          exact congrArg some e2
        have ne : l2 ≠ l := fun z => by
          subst z
          exact r.dis i j l2 d d2 ij ei e es e3
        exact ⟨l2, e2, ⟨m2, ne⟩, nT2, h02, OwnR.keep (g := g) (fun _ _ z => z.1) (fun _ _ _ h => h) (fun _ h => h) r2⟩
  · have back : ∀ (j : Nat) (d1 : D), (env.set i (.val d))[j]? = some (.own d1) → env[j]? = some (.own d1) := fun j d1 e => by
      by_cases ij : i = j
      · subst ij
        rw [List.getElem?_set_self hi] at e
        cases e
      · rw [List.getElem?_set_ne ij] at e; exact e
    exact r.dis j k l1 d1 e1 jk (back j d1 ej) (back k e1 ek) sj sk
end
end
end Pl
end

section
set_option Elab.async false
set_option linter.all false
set_option maxRecDepth 100000
set_option maxHeartbeats 1000000
set_option autoImplicit false
namespace Pl
open PySem PySem.Spec PyProof.Rows L2
/-! ### statements -/
section
variable {K : PySem.W.Frag} {g g' : Gh} {A : AEnds} {Dn : Ends}
theorem SR.ret {M : Addr → Prop} {σ : L2.St} {H H' : Hp} {env : AEnv} {v : V} {d : D} (s : SR K g M σ H env) (g1 : Grow K g.T M H H') (r : Rep K g.T M H' v d) : Grow K g.T g.M0 g.H0 H' ∧ Rep K g.T g.M0 H' v d :=
  ⟨(s.grow g1).grow0, (s.grow g1).rep0 r⟩
theorem EndsOk.nxs (e : EndsOk K g A Dn) {N : AEnv → Prop} {N' : L2.St → Hp → Prop} (h : ∀ env M σ H, N env → SR K g M σ H env → N' σ H) : EndsOk K g { A with nx := N } { Dn with nx := N' } := ⟨h, e.rt, e.bk, e.ct⟩
end
section
variable {X : Cx} {st : Stmt} {sts rest : List Stmt} {F G : FS} {e c : Expr} {f : FE} {t : FT} {pos : Pos}
theorem pps_nil : PPSs X [] wNext := pss_nil.imp fun D σ H ⟨g, M, env, A, s, q, k⟩ => k.nx env M σ H q s
theorem pps_one (h : PPS X st F) : PPSs X [st] F := pss_one h
theorem pps_cons (h1 : PPS X st F) (h2 : PPSs X rest G) : PPSs X (st :: rest) (wSeq F G) :=
  (pss_cons h1 h2).imp fun D σ H ⟨g, M, env, A, s, q, k⟩ => ⟨g, M, env, _, s, q, k.nxs fun env M σ H q s => ⟨g, M, env, A, s, q, k⟩⟩
/-- ahead of a block an own object becomes a value -/
theorem pps_frz (i : Nat) (h : PPSs X sts F) : PPSs X sts (wSeq (wFrz i) F) := PSs.imp h fun D σ H ⟨g, M, env, A, s, ⟨d, e, q⟩, k⟩ => by
  obtain ⟨M', s'⟩ := s.frz e
  exact ⟨g, M', _, A, s', q, k⟩
theorem pps_never : PPSs X sts wNever := pss_never.imp fun D σ H ⟨g, M, env, A, s, q, k⟩ => q.elim
theorem pp_never : PPS X st wNever := ps_never.imp fun D σ H ⟨g, M, env, A, s, q, k⟩ => q.elim
theorem pp_pass : PPS X (.Pass pos) wNext := ps_pass.imp fun D σ H ⟨g, M, env, A, s, q, k⟩ => k.nx env M σ H q s
theorem pp_break : PPS X (.Break pos) wBreak := ps_break.imp fun D σ H ⟨g, M, env, A, s, q, k⟩ => k.bk env M σ H q s
theorem pp_continue : PPS X (.Continue pos) wCont := ps_continue.imp fun D σ H ⟨g, M, env, A, s, q, k⟩ => k.ct env M σ H q s
theorem pp_ret (h : PP X e f) : PPS X (.Return (some e) pos) (wRet f) := (ps_ret h).imp fun D σ H ⟨g, M, env, A, s, q, k⟩ => ⟨g, M, env, _, s, q, fun d v H' a b c => k.rt d v H' a (s.ret b c).1 (s.ret b c).2⟩
theorem pp_retN : PPS X (.Return none pos) wRetN := ps_retN.imp fun D σ H ⟨g, M, env, A, s, q, k⟩ => k.rt _ _ H q s.grow0 .non
theorem pp_drop (h : PP X e f) (hs : swapsWith e none pos.line X.env = pure false := by rfl) : PPS X (.Expr e pos) (wDrop f) :=
  (ps_expr h hs).imp fun D σ H ⟨g, M, env, A, s, q, k⟩ => ⟨g, M, env, _, s, q, fun d v H' a b c => k.nx _ M σ H' a (s.grow b)⟩
theorem pp_ifS {a b : List Stmt} (hc : PPT X c t) (ha : PPSs X a F) (hb : PPSs X b G) : PPS X (.If c a b pos) (wIfS t F G) :=
  (ps_if hc ha hb).imp fun D σ H ⟨g, M, env, A, s, q, k⟩ => ⟨g, M, env, _, s, q, fun b H' a gr => by
    split at a
    · rename_i h
      rw [if_pos h]
      exact ⟨g, M, env, A, s.grow gr, a, k⟩
    · rename_i h
      rw [if_neg h]
      exact ⟨g, M, env, A, s.grow gr, a, k⟩⟩
theorem pp_set {i : Nat} {x : Str} {pos' : Pos} (hN : X.N.Nodup) (hi : X.N[i]? = some x) (hx : Loc X.env.scope x) (he : PP X e f) (hs : swapsWith e (some (.Name x pos')) pos.line X.env = pure false := by rfl) (hf : X.fn x = true ∨ X.env.scope.names.lookup x = some .local := by first | exact .inl rfl | exact .inr rfl | assumption) :
    PPS X (.Assign [.Name x pos'] e pos) (wSet i f) :=
  (ps_set hN hi hx he hs hf).imp fun D σ H ⟨g, M, env, A, s, q, k⟩ => ⟨g, M, env, _, s, q, fun d v H' a b c => k.nx _ M _ H' a ((s.grow b).setV c)⟩
theorem pp_setO {i : Nat} {x : Str} {pos' : Pos} (hN : X.N.Nodup) (hi : X.N[i]? = some x) (hx : Loc X.env.scope x) (he : PF X e f) (hs : swapsWith e (some (.Name x pos')) pos.line X.env = pure false := by rfl) (hf : X.fn x = true ∨ X.env.scope.names.lookup x = some .local := by first | exact .inl rfl | exact .inr rfl | assumption) :
    PPS X (.Assign [.Name x pos'] e pos) (wSetO i f) :=
  (ps_set hN hi hx he hs hf).imp fun D σ H ⟨g, M, env, A, s, q, k⟩ => ⟨g, M, env, _, s, q, fun d v H' a b c => by
    obtain ⟨M', s'⟩ := s.setO b c
    exact k.nx _ M' _ H' a s'⟩
/-! ### targets -/
def gNames : List Nat → TGs
  | [] => gNil
  | i :: is => gCons (gName i) (gNames is)
def tgT (K : PySem.W.Frag) : Tgt → TG
  | .name i => gName i
  | .tup is => gTup K is.length (gNames is)
theorem wipe_set {σ : L2.St} {i : Nat} {o : Option V} : ∀ {vs : List Nat}, i ∈ vs → wipe (σ.set i o) vs = wipe σ vs
  | [], h => by cases h
  | v :: vs, h => by
    unfold wipe
    by_cases e : i = v
    · subst e
      by_cases h2 : i ∈ vs
      · rw [wipe_set h2]
      · have : ∀ {vs : List Nat}, i ∉ vs → (wipe (σ.set i o) vs) = (wipe σ vs).set i o := by
          intro vs
          induction vs with
          | nil => intro _; rfl
          | cons w ws ih =>
            intro hn
            unfold wipe
            rw [ih (fun z => hn (List.mem_cons_of_mem _ z)), List.set_comm]
            exact fun z => hn (by rw [z]; exact List.mem_cons_self)
        rw [this h2, List.set_set]
    · have h2 : i ∈ vs := (List.mem_cons.mp h).elim (fun z => absurd z e) id
      rw [wipe_set h2]
theorem gNames_ok {K : PySem.W.Frag} {g : Gh} {M : Addr → Prop} {H : Hp} (vs : List Nat) : ∀ {is : List Nat} {us : List V} {ds : List D} {σ : L2.St} {env env' : AEnv} {Q : L2.St → Hp → Prop}, SR K g M σ H env → Reps K g.T M H us ds → setAll is ds env = some env' →
    (∀ σ', SR K g M σ' H env' → ((∀ i ∈ is, i ∈ vs) → wipe σ' vs = wipe σ vs) → Q σ' H) → gNames is us σ H Q
  | [], us, [], σ, env, env', Q, s, r, e, k => by
    cases r
    cases e
    exact ⟨rfl, k σ s fun _ => rfl⟩
  | [], us, d :: ds, σ, env, env', Q, s, r, e, k => by cases e
  | i :: is, us, [], σ, env, env', Q, s, r, e, k => by cases e
  | i :: is, us, d :: ds, σ, env, env', Q, s, r, e, k => by
    cases r with
    | cons r1 r2 =>
      refine ⟨_, _, rfl, ?_⟩
      refine gNames_ok vs (s.setV (i := i) r1) r2 e fun σ' s' w => k σ' s' fun hv => ?_
      rw [w fun j hj => hv j (List.mem_cons_of_mem _ hj), wipe_set (hv i List.mem_cons_self)]
theorem setAll_len : ∀ {is : List Nat} {ds : List D} {env env' : AEnv}, setAll is ds env = some env' → is.length = ds.length
  | [], [], _, _, _ => rfl
  | [], _ :: _, _, _, e => by cases e
  | _ :: _, [], _, _, e => by cases e
  | _ :: _, _ :: _, _, _, e => congrArg Nat.succ (setAll_len e)
theorem tgT_ok {K : PySem.W.Frag} {g : Gh} {M : Addr → Prop} {H : Hp} (vs : List Nat) {t : Tgt} {v : V} {d : D} {σ : L2.St} {env env' : AEnv} {Q : L2.St → Hp → Prop} (s : SR K g M σ H env) (r : Rep K g.T M H v d) (e : bindT t d env = some env')
    (k : ∀ σ', SR K g M σ' H env' → ((∀ i ∈ t.slots, i ∈ vs) → wipe σ' vs = wipe σ vs) → Q σ' H) : tgT K t v σ H Q := by
  cases t with
  | name i =>
    cases e
    exact k _ (s.setV r) fun hv => wipe_set (hv i (by simp [Tgt.slots]))
  | tup is =>
    cases d with
    | tup ds =>
      have e : setAll is ds env = some env' := e
      obtain ⟨a, us, e1, h, rs⟩ := r.b.tup
      refine ⟨a, us, e1, h, ?_, gNames_ok vs s rs e k⟩
      rw [rs.length, setAll_len e]
    | _ => cases e
/-- a name, or names, of the def -/
def PPG (X : Cx) (tg : Expr) (t : Tgt) : Prop := PG X tg (tgT X.K t)
theorem ppg_name {i : Nat} {x : Str} (hN : X.N.Nodup) (hi : X.N[i]? = some x) (hx : Loc X.env.scope x) (hf : X.fn x = true ∨ X.env.scope.names.lookup x = some .local := by first | exact .inl rfl | exact .inr rfl | assumption) : PPG X (.Name x pos) (.name i) := pg_name hN hi hx hf
abbrev PPGs (X : Cx) (es : List Expr) (is : List Nat) : Prop := PGs X es (gNames is)
theorem ppgs_nil : PPGs X [] [] := pgs_nil
theorem ppgs_cons {i : Nat} {x : Str} {es : List Expr} {is : List Nat} (hN : X.N.Nodup) (hi : X.N[i]? = some x) (hx : Loc X.env.scope x) (h2 : PPGs X es is) (hf : X.fn x = true ∨ X.env.scope.names.lookup x = some .local := by first | exact .inl rfl | exact .inr rfl | assumption)
    (hs : (assignEach (.Name x pos :: es) X.env).map (·.2) = assign (.Name x pos) X.env :: (assignEach es X.env).map (·.2) := by rfl) : PPGs X (.Name x pos :: es) (i :: is) := pgs_cons (pg_name hN hi hx hf) h2 hs
theorem ppg_tup {es : List Expr} {k : Nat} {is : List Nat} (hc : X.calm = true) (h : PPGs X es is) (hn : (assignEach es X.env).length = is.length := by rfl) (hst : (assignEach es X.env).findIdx? (·.1) = none := by rfl) : PPG X (.Tuple es k pos) (.tup is) := pg_tup hc h hn hst
theorem pp_asg {tg : Expr} {tt : Tgt} (he : PP X e f) (hg : PPG X tg tt) (hs : swapsWithSole [tg] e pos.line X.env = pure false := by rfl) (hw : swappedStores [tg] e X.env = pure none := by rfl)
    (h1 : (assignEach [tg] X.env).map (·.2) = [assign tg X.env] := by rfl) : PPS X (.Assign [tg] e pos) (wAsg tt f) :=
  (ps_asg he hg hs hw h1).imp fun D σ H ⟨g, M, env, A, s, q, k⟩ => ⟨g, M, env, _, s, q, fun d v H' ⟨env', e1, a⟩ b c => tgT_ok [] (s.grow b) c e1 fun σ' s' _ => k.nx _ M σ' H' a s'⟩
end
end Pl
end

section
set_option Elab.async false
set_option linter.all false
set_option maxRecDepth 100000
set_option maxHeartbeats 1000000
set_option autoImplicit false
namespace Pl
open PySem PySem.Spec PyProof.Rows L2
/-! ### while -/
section
variable {X : Cx} {st : Stmt} {body : List Stmt} {F G : FS} {e c : Expr} {f : FE} {t : FT} {pos : Pos}
theorem pp_while (hp : PassesOwn (model X.prog X.w) X.A X.env X.xe) (hc : PPT X c t) (hb : PPSs X body F) : PPS X (.While c body [] pos) (wWhile t F) :=
  (ps_while hp hc hb).imp fun D σ H ⟨g, M, env, A, s, ⟨n, q⟩, k⟩ => by
    refine ⟨fun m σ H => ∃ M env, SR X.K g M σ H env ∧ wWhileN t F m A env, ⟨n, M, env, s, q⟩, ?_⟩
    rintro m σ1 H1 ⟨M1, env1, s1, q1⟩
    cases m with
    | zero => exact q1.elim
    | succ m =>
      refine ⟨g, M1, env1, _, s1, q1, fun b H2 q2 g2 => ?_⟩
      have s2 := s1.grow g2
      dsimp only
      split at q2
      · rename_i h
        rw [if_pos h]
        refine ⟨fun σ H => ∃ M env, SR X.K g M σ H env ∧ wWhileN t F m A env, fun σ' H' z => ⟨m, Nat.lt_succ_self _, z⟩, g, M1, env1, _, s2, q2, ?_⟩
        exact ⟨fun env M σ H a b => ⟨M, env, b, a⟩, k.rt, fun env M σ H a b => k.nx env M σ H a b, fun env M σ H a b => ⟨M, env, b, a⟩⟩
      · rename_i h
        rw [if_neg h]
        exact k.nx env1 M1 _ _ q2 s2
/-! ### what is walked -/
/-- the iterator J yields these, from H1 on -/
def ItOk (K : PySem.W.Frag) (T : Tp) (M : Addr → Prop) (J : It) (ds : List D) (H1 : Hp) : Prop :=
  ∀ (M' : Addr → Prop) (i : Nat) (H : Hp), (∀ a, M' a → M a ∨ H1 a = none) → Wd K T M' H → (∀ a o, ¬ M a → H1 a = some o → H a = some o) →
    (i < ds.length → J.go i H ∧ ∀ x H', J.yld i H x H' → Grow K T M' H H' ∧ ∃ d, ds[i]? = some d ∧ Rep K T M' H' x d) ∧ (ds.length ≤ i → J.stop i H)
def tI (K : PySem.W.Frag) (f : FEs) : TI := fun σ H R => ∃ g M env Qd, SR K g M σ H env ∧ f env Qd ∧ ∀ ds J H1, Qd ds → Grow K g.T M H H1 → ItOk K g.T M J ds H1 → R J H1
abbrev PPI (X : Cx) (tg it : Expr) (f : FEs) : Prop := PI X tg it (tI X.K f)
theorem _root_.L2.PI.imp {tg e : Expr} {t t' : TI} (h : PI X tg e t) (w : ∀ σ H Q, t' σ H Q → t σ H Q) : PI X tg e t' := ⟨fun pins s σ H Q I q => h.run pins s σ H Q I (w _ _ _ q)⟩
/-- from another ghost: what stands at a loop's start stays -/
theorem SR.rebase {K : PySem.W.Frag} {g : Gh} {M : Addr → Prop} {σ : L2.St} {H : Hp} {env : AEnv} (s : SR K g M σ H env) : ∃ g' : Gh, g'.T = g.T ∧ g'.M0 = g.M0 ∧ SR K g' M σ H env ∧ (∀ a o, a ≠ g.T.t → g.H0 a = some o → g'.H0 a = some o) ∧
    ∀ M' σ' H' env', SR K g' M' σ' H' env' → SR K g M' σ' H' env' ∧ (∀ a o, ¬ M a → H a = some o → H' a = some o) ∧ ∀ a, M' a → M a ∨ H a = none := by
  classical
  have h0 : ∀ a, g.M0 a → ¬ (M a ∧ ¬ g.M0 a) := fun a z w => w.2 z
  have hH : ∀ a o, a ≠ g.T.t → g.H0 a = some o → (if M a ∧ ¬ g.M0 a then none else H a) = some o := fun a o n e => by
    rw [if_neg]
    · exact s.gr a o n e
    · rintro ⟨m, n0⟩
      rcases s.mh a m with z | z
      · exact n0 z
      · rw [z] at e; cases e
  refine ⟨⟨g.T, g.M0, fun a => if M a ∧ ¬ g.M0 a then none else H a, g.h, fun a z => by rw [if_neg (h0 a z)]; exact s.wd.md a (s.m0 a z)⟩, rfl, rfl, ?_, hH, ?_⟩
  · refine ⟨s.wd, s.m0, fun a m => ?_, fun a o n e => ?_, s.len, fun i x e => ?_, s.dis⟩
    · by_cases z : g.M0 a
      · exact .inl z
      · exact .inr (if_pos ⟨m, z⟩)
    · have e : (if M a ∧ ¬ g.M0 a then none else H a) = some o := e
      split at e
      · cases e
      · exact e
    · have q := s.sl i x e
      cases x with
      | non => exact q
      | val d => exact q
      | own d =>
        obtain ⟨l, e1, ml, nT, hl, r⟩ := q
        refine ⟨l, e1, ml, nT, if_pos ⟨ml, fun z => g.d l z hl⟩, r⟩
  · intro M' σ' H' env' s'
    have hnone : ∀ a, (if M a ∧ ¬ g.M0 a then none else H a) = none → g.M0 a ∨ g.H0 a = none := fun a z => by
      split at z
      · rename_i w
        rcases s.mh a w.1 with q | q
        · exact absurd q w.2
        · exact .inr q
      · by_cases aT : a = g.T.t
        · exact .inl (by rw [aT]; exact g.h)
        · cases q : g.H0 a with
          | none => exact .inr rfl
          | some o => rw [s.gr a o aT q] at z; cases z
    refine ⟨⟨s'.wd, s'.m0, fun a m => ?_, fun a o n e => s'.gr a o n (hH a o n e), s'.len, fun i x e => ?_, s'.dis⟩, fun a o n e => ?_, fun a m => ?_⟩
    · rcases s'.mh a m with z | z
      · exact .inl z
      · exact hnone a z
    · have q := s'.sl i x e
      cases x with
      | non => exact q
      | val d => exact q
      | own d =>
        obtain ⟨l, e1, ml, nT, hl, r⟩ := q
        rcases hnone l hl with z | z
        · exact absurd (show (if M l ∧ ¬ g.M0 l then none else H l) = none from hl) (by rw [if_neg (h0 l z)]; exact s.wd.md l (s.m0 l z))
        · exact ⟨l, e1, ml, nT, z, r⟩
    · exact s'.gr a o (fun z => n (by rw [z]; exact s.wd.mT)) (show (if M a ∧ ¬ g.M0 a then none else H a) = some o by rw [if_neg (fun z => n z.1)]; exact e)
    · rcases s'.mh a m with z | z
      · exact .inl (s.m0 a z)
      · have z : (if M a ∧ ¬ g.M0 a then none else H a) = none := z
        split at z
        · rename_i w; exact .inl w.1
        · exact .inr z
theorem EndsOk.base {K : PySem.W.Frag} {g g' : Gh} {A : AEnds} {Dn : Ends} (hT : g'.T = g.T) (hM : g'.M0 = g.M0) (hH : ∀ a o, a ≠ g.T.t → g.H0 a = some o → g'.H0 a = some o) (k : EndsOk K g A Dn) : ∀ d v H, A.rt d → Grow K g'.T g'.M0 g'.H0 H → Rep K g'.T g'.M0 H v d → Dn.rt v H := fun d v H a b c => by
  rw [hT, hM] at b c
  exact k.rt d v H a ⟨fun x o n e => b.keep x o n (hH x o n e), b.tape⟩ c
theorem pp_for {iter tg : Expr} {tt : Tgt} {fi : FEs} (hp : PassesOwn (model X.prog X.w) X.A X.env X.xe) (hc : X.calm = true) (hi : PPI X tg iter fi) (hg : PPG X tg tt) (hb : PPSs X body F)
    (hs : ∀ x, foldedSetIterable iter X.env x = pure x := by intro _; rfl) : PPS X (.For tg iter body [] pos) (wFor tt fi F) :=
  (ps_for hp hc hi hg hb hs).imp fun D σ H ⟨g, M, env, A, s, q, k⟩ => ⟨g, M, env, _, s, q, fun ds J H1 q1 g1 it => by
    have s1 := s.grow g1
    obtain ⟨g', hT, hM, s', hH, back⟩ := s1.rebase
    have krt := EndsOk.base hT hM hH k
    refine ⟨fun i m σ H => m = ds.length - i ∧ i ≤ ds.length ∧ ∃ M' env', SR X.K g' M' σ H env' ∧ wForL tt F (ds.drop i) A env', ⟨ds.length, by simp, Nat.zero_le _, M, env, s', by simpa using q1⟩, ?_⟩
    rintro i m σ2 H2 ⟨rfl, hi, M2, env2, s2, q2⟩
    obtain ⟨sb, kp, mm⟩ := back _ _ _ _ s2
    obtain ⟨go, stop⟩ := it M2 i H2 mm sb.wd kp
    rcases Nat.lt_or_ge i ds.length with lt | ge
    · obtain ⟨go, yl⟩ := go lt
      refine .inr ⟨go, fun σ H => ∃ M' env', SR X.K g' M' σ H env' ∧ wForL tt F (ds.drop (i + 1)) A env', fun σ' H' z => ⟨ds.length - (i + 1), by omega, rfl, lt, z⟩, fun x H3 y => ?_⟩
      obtain ⟨g3, d, ed, r⟩ := yl x H3 y
      rw [← hT] at g3 r
      have s3 := s2.grow g3
      have dd : ds.drop i = d :: ds.drop (i + 1) := by
        rw [List.drop_eq_getElem_cons lt]
        rw [List.getElem?_eq_getElem lt] at ed
        rw [Option.some.inj ed]
      rw [dd] at q2
      obtain ⟨e4, b4, q4⟩ := q2
      refine tgT_ok [] s3 r b4 fun σ' s4 _ => ⟨g', M2, e4, _, s4, q4, ?_⟩
      exact ⟨fun env M σ H a b => ⟨M, env, b, a⟩, krt, fun env M σ H a b => k.nx env M σ H a (back _ _ _ _ b).1, fun env M σ H a b => ⟨M, env, b, a⟩⟩
    · have : i = ds.length := Nat.le_antisymm hi ge
      subst this
      rw [List.drop_length] at q2
      exact .inl ⟨stop (Nat.le_refl _), k.nx _ _ _ _ q2 sb⟩⟩
/-! ### lists, tuples -/
def iSeq (K : PySem.W.Frag) (tl : TE) : TI := fun σ H R => tl σ H fun x H1 => ∃ a, x = .ref a ∧ ((∃ xs, SqL K H1 a xs ∧ R (Itl K a) H1) ∨ ∃ xs, SqT K H1 a xs ∧ R (Itt K a) H1)
theorem pi_seq {tg l : Expr} {tl : TE} (hl : PE X l tl) : PI X tg l (iSeq X.K tl) := by
  refine ⟨fun pins s σ H R I h => ?_⟩
  refine thn (hl.run pins s σ H _ I h) fun v s1 ⟨x, H1, I1, r1, q1⟩ => ?_
  obtain ⟨a, e, q1⟩ := q1
  subst e
  cases r1
  have fr : ∀ b ∈ [s1.heap.objs.size], FpOk X pins H1 b := fun b hb => by
    have e : b = s1.heap.objs.size := by simpa using hb
    subst e
    exact I1.fpOk (Nat.le_refl _) (I1.hok.fresh (Nat.le_refl _))
  rcases q1 with ⟨xs, hq, q⟩ | ⟨xs, hq, q⟩
  · obtain ⟨its, rv, p, hz⟩ := I1.list hq
    refine wpAny_pyIter_list p.isList ?_
    exact ⟨s1.heap.objs.size, [s1.heap.objs.size], _, _, H1, rfl, I1.kept (t' := s1.toks) fun b o e => Heap.get?_push_of_some _ e, turn_list a _, ⟨_, Heap.get?_push_size _ rfl, rfl, rfl⟩, fr, q⟩
  · obtain ⟨its, rv, p, hz⟩ := I1.tuple hq
    refine wpAny_pyIter_tuple (show s1.heap.IsTuple a its.toArray from p) ?_
    exact ⟨s1.heap.objs.size, [s1.heap.objs.size], _, _, H1, rfl, I1.kept (t' := s1.toks) fun b o e => Heap.get?_push_of_some _ e, turn_tuple a _, ⟨_, Heap.get?_push_size _ rfl, rfl, rfl⟩, fr, q⟩
section
variable {K : PySem.W.Frag} {T : Tp} {M M' : Addr → Prop} {H H1 : Hp}
theorem Reps.later {ds : List D} {vs : List V} (r : Reps K T M H1 vs ds) (hM : ∀ a, M' a → M a ∨ H1 a = none) (kp : ∀ a o, ¬ M a → H1 a = some o → H a = some o) : Reps K T M' H vs ds :=
  Reps.keep (fun a h z => (hM a z).elim id fun w => absurd w h) kp ds vs r
theorem it_list {a : Addr} {vs : List V} {ds : List D} (h : H1 a = some (.lst vs)) (n : ¬ M a) (r : Reps K T M H1 vs ds) : ItOk K T M (Itl K a) ds H1 := by
  intro M' i H hM w kp
  have h2 := kp a _ n h
  have r2 := r.later hM kp
  refine ⟨fun lt => ?_, fun ge => ⟨vs, .of h2, by rw [r.length]; exact ge⟩⟩
  have e : ds[i]? = some ds[i] := List.getElem?_eq_getElem lt
  obtain ⟨v, ev, rv⟩ := r2.get e
  refine ⟨⟨vs, v, .of h2, ev⟩, fun x H' y => ?_⟩
  obtain ⟨e', y⟩ := y
  subst e'
  have z := y vs (.of h2)
  rw [ev] at z
  cases z
  exact ⟨.refl w, _, e, rv⟩
theorem it_tup {a : Addr} {vs : List V} {ds : List D} (hs : ∀ H, (∀ a o, ¬ M a → H1 a = some o → H a = some o) → SqT K H a vs) (r : Reps K T M H1 vs ds) : ItOk K T M (Itt K a) ds H1 := by
  intro M' i H hM w kp
  have h2 := hs H kp
  have r2 := r.later hM kp
  refine ⟨fun lt => ?_, fun ge => ⟨vs, h2, by rw [r.length]; exact ge⟩⟩
  have e : ds[i]? = some ds[i] := List.getElem?_eq_getElem lt
  obtain ⟨v, ev, rv⟩ := r2.get e
  refine ⟨⟨vs, v, h2, ev⟩, fun x H' y => ?_⟩
  obtain ⟨e', y⟩ := y
  subst e'
  have z := y vs h2
  rw [ev] at z
  cases z
  exact ⟨.refl w, _, e, rv⟩
theorem Rep.tupS {v : V} {ds : List D} (r : Rep K T M H1 v (.tup ds)) : ∃ a vs, v = .ref a ∧ (∀ H, (∀ a o, ¬ M a → H1 a = some o → H a = some o) → SqT K H a vs) ∧ Reps K T M H1 vs ds := by
  cases r with
  | tup h n rs => exact ⟨_, _, rfl, fun H kp => .of (kp _ _ n h), rs⟩
  | wtup h rs => exact ⟨_, _, rfl, fun H _ => h.sq, rs⟩
end
theorem ppi_items {tg l : Expr} (hl : PP X l f) : PPI X tg l (wItems f) :=
  PI.imp (pi_seq hl) fun σ H R ⟨g, M, env, Qd, s, q, k⟩ => ⟨g, M, env, _, s, q, fun d v H1 q1 g1 r1 => by
    split at q1
    · cases r1 with
      | lst h n rs => exact ⟨_, rfl, .inl ⟨_, .of h, k _ _ _ q1 g1 (it_list h n rs)⟩⟩
    · obtain ⟨a, vs, e, hs, rs⟩ := r1.tupS
      exact ⟨a, e, .inr ⟨vs, hs H1 (fun _ _ _ h => h), k _ _ _ q1 g1 (it_tup hs rs)⟩⟩
    · exact q1.elim⟩
/-! ### ranges -/
theorem it_range {K : PySem.W.Frag} {T : Tp} {M : Addr → Prop} {H1 : Hp} (lo : Int) (n : Nat) : ItOk K T M (Itr lo n) (rngD lo n) H1 := by
  intro M' i H hM w kp
  have hl : (rngD lo n).length = n := by simp [rngD]
  rw [hl]
  refine ⟨fun lt => ⟨lt, fun x H' y => ?_⟩, fun ge => ge⟩
  obtain ⟨e, y⟩ := y
  subst e y
  refine ⟨.refl w, .int (lo + i), ?_, .int _⟩
  simp [rngD, lt]
theorem ppi_range1 {tg a : Expr} {fs : FEs} {p : Pos} (hg : Gl X "range") (hm : X.mg "range" = none) (ha : PPA X [a] fs) (hs : starEach [a] X.env = [(false, eval a X.env)] := by rfl) : PPI X tg (.Call (.Name "range" p) [a] [] pos) (wRng1 fs) :=
  PI.imp (pi_range1 hg hm ha hs) fun σ H R ⟨g, M, env, Qd, s, q, k⟩ => ⟨g, M, env, _, s, q, fun ds vs H1 q1 g1 r1 => by
    split at q1
    · obtain ⟨v, us, e, r, r2⟩ := r1.inv_cons
      rw [r2.inv_nil] at e
      rw [r.b.int] at e
      exact ⟨_, e, q1.1.1, q1.1.2, k _ _ _ q1.2 g1 (it_range _ _)⟩
    · exact q1.elim⟩
theorem ppi_range2 {tg a b : Expr} {fs : FEs} {p : Pos} (hg : Gl X "range") (hm : X.mg "range" = none) (ha : PPA X [a, b] fs) (hs : starEach [a, b] X.env = [(false, eval a X.env), (false, eval b X.env)] := by rfl) (hs2 : starEach [b] X.env = [(false, eval b X.env)] := by rfl) : PPI X tg (.Call (.Name "range" p) [a, b] [] pos) (wRng2 fs) :=
  PI.imp (pi_range2 hg hm ha hs hs2) fun σ H R ⟨g, M, env, Qd, s, q, k⟩ => ⟨g, M, env, _, s, q, fun ds vs H1 q1 g1 r1 => by
    split at q1
    · obtain ⟨v, us, e, r, r2⟩ := r1.inv_cons
      obtain ⟨v', us', e', r', r2'⟩ := r2.inv_cons
      rw [r2'.inv_nil] at e'
      rw [e', r.b.int, r'.b.int] at e
      exact ⟨_, _, e, q1.1, k _ _ _ q1.2 g1 (it_range _ _)⟩
    · exact q1.elim⟩
end
end Pl
end

section
set_option Elab.async false
set_option linter.all false
set_option maxRecDepth 100000
set_option maxHeartbeats 1000000
set_option autoImplicit false
namespace Pl
open PySem PySem.Spec PyProof.Rows L2
section
variable {K : PySem.W.Frag} {g : Gh} {M M' : Addr → Prop} {σ : L2.St} {H H1 H' : Hp} {env : AEnv} {i : Nat} {v : V} {d : D} {l : Addr}
/-- no own slot holds l -/
def NoOwn (σ : L2.St) (env : AEnv) (l : Addr) : Prop := ∀ (j : Nat) (e : D) (l2 : Addr), env[j]? = some (.own e) → σ[j]? = some (some (.ref l2)) → l2 ≠ l
theorem SR.noOwn (r : SR K g M σ H env) (n : H l = none) : NoOwn σ env l := fun j e l2 e1 e2 z => by
  have q := r.sl j _ e1
  rw [List.getD_eq_getElem?_getD, e2] at q
  obtain ⟨l3, e3, _, _, _, q⟩ := q
  cases e3
  subst z
  cases e <;> first | exact q.elim | (obtain ⟨_, h, _⟩ := q; rw [n] at h; cases h) | (obtain ⟨_, _, _, h, _⟩ := q; rw [n] at h; cases h)
theorem SR.slotOf (r : SR K g M σ H env) {j : Nat} {e : D} (ej : env[j]? = some (.own e)) {l2 : Addr} (e2 : σ.getD j none = some (.ref l2)) : σ[j]? = some (some (.ref l2)) := by
  obtain ⟨o, eo, l3, e3, _⟩ := r.slot ej
  subst e3
  rw [List.getD_eq_getElem?_getD, eo] at e2
  rw [eo]
  exact congrArg some e2
/-- a new object, hidden -/
theorem SR.hide (r : SR K g M σ H env) (n : H l = none) (o : HO) : SR K g (fun a => M a ∨ a = l) σ (upd H l o) env := by
  have gw : Grow K g.T M H (upd H l o) := .new r.wd n
  have r1 := r.grow gw
  have lT : l ≠ g.T.t := fun z => by subst z; exact r.wd.tape.ne n
  have h0 : g.H0 l = none := by
    cases q : g.H0 l with
    | none => rfl
    | some o => rw [r.gr l o lT q] at n; cases n
  have notM : ∀ a, H a ≠ none → a ≠ l := fun a h z => h (by rw [z]; exact n)
  refine ⟨⟨?_, .inl r.wd.mT, fun a z => z.elim (fun z => r1.wd.md a z) fun z => by rw [z, upd_same]; simp⟩, fun a z => .inl (r.m0 a z), fun a z => z.elim (fun z => r.mh a z) fun z => .inr (by rw [z]; exact h0), r1.gr, r.len, fun j x e => ?_, r.dis⟩
  · obtain ⟨k, acc, mix, cells, h1, h2, h3, rr⟩ := gw.tape
    refine ⟨k, acc, mix, cells, h1, h2, fun z => z.elim h3 fun z => ?_, rr⟩
    obtain ⟨_, _, _, _, _, h4, _⟩ := r.wd.tape
    rw [z, n] at h4
    cases h4
  · have q := r.sl j x e
    refine SlotOk.keep (fun a h z => z.elim id fun z => absurd z (notM a h)) (fun a z => .inl z) (fun a o n h => gw.keep a o (fun e => n (e ▸ r.wd.mT)) h) (fun l' d' e1 e2 o' h' => ?_) q
    subst e1
    obtain ⟨l2, e3, _, nT, _⟩ := q
    rw [e2] at e3; cases e3
    exact gw.keep _ _ nT h'
/-- a hidden object is changed -/
theorem SR.updH (r : SR K g M σ H env) (ml : M l) (lT : l ≠ g.T.t) (h0 : g.H0 l = none) (no : NoOwn σ env l) (o : HO) : SR K g M σ (upd H l o) env := by
  have cne : g.T.c ≠ l := fun z => by
    obtain ⟨_, _, _, _, _, _, h3, _⟩ := r.wd.tape
    rw [z] at h3
    exact h3 ml
  refine ⟨⟨?_, r.wd.mT, fun a z => ?_⟩, r.m0, r.mh, fun a u n e => ?_, r.len, fun j x e => ?_, r.dis⟩
  · obtain ⟨k, acc, mix, cells, h1, h2, h3, rr⟩ := r.wd.tape
    exact ⟨k, acc, mix, cells, by rw [upd_ne (Ne.symm lT)]; exact h1, by rw [upd_ne cne]; exact h2, h3, rr⟩
  · by_cases al : a = l
    · rw [al, upd_same]; simp
    · rw [upd_ne al]; exact r.wd.md a z
  · have al : a ≠ l := fun z => by rw [z, h0] at e; cases e
    rw [upd_ne al]
    exact r.gr a u n e
  · have qj := r.sl j x e
    refine SlotOk.keep (fun _ _ z => z) (fun _ z => z) (fun a u n h => by rw [upd_ne (fun z => n (by rw [z]; exact ml))]; exact h) (fun l2 d2 e1 e2 u h => ?_) qj
    subst e1
    rw [upd_ne (no j d2 l2 e (r.slotOf e e2))]
    exact h
theorem SR.wipe (r : SR K g M σ H env) : ∀ vs : List Nat, SR K g M (L2.wipe σ vs) H (wipeE env vs)
  | [] => r
  | v :: vs => (r.wipe vs).set (s := .non) True.intro fun _ => by simp
theorem wipe_wipe : ∀ (vs ws : List Nat) (σ : L2.St), (∀ v ∈ ws, v ∈ vs) → L2.wipe (L2.wipe σ ws) vs = L2.wipe σ vs
  | vs, [], σ, _ => rfl
  | vs, w :: ws, σ, h => by
    show L2.wipe ((L2.wipe σ ws).set w none) vs = _
    rw [wipe_set (h w List.mem_cons_self), wipe_wipe vs ws σ fun v hv => h v (List.mem_cons_of_mem _ hv)]
theorem NoOwn.wipe (no : NoOwn σ env l) : ∀ vs : List Nat, NoOwn (L2.wipe σ vs) (wipeE env vs) l
  | [] => no
  | v :: vs => fun j e l2 e1 e2 => by
    have ih := NoOwn.wipe no vs
    have e1 : ((wipeE env vs).set v .non)[j]? = some (.own e) := e1
    have e2 : ((L2.wipe σ vs).set v none)[j]? = some (some (.ref l2)) := e2
    by_cases jv : v = j
    · subst jv
      by_cases hl : v < (wipeE env vs).length
      · rw [List.getElem?_set_self hl] at e1; cases e1
      · rw [List.getElem?_eq_none (by simpa using hl)] at e1; cases e1
    · rw [List.getElem?_set_ne jv] at e1 e2
      exact ih j e l2 e1 e2
end
section
variable {K : PySem.W.Frag}
theorem tLc_of {fi : FEs} {t : Tgt} {c : FT} {f : FE} {vs : List Nat} (hv : ∀ i ∈ t.slots, i ∈ vs) (σ : L2.St) (H : Hp) (Q : VK) (h : tF K (wLc fi t c f vs) σ H Q) : tLc (tI K fi) (tgT K t) (tPT K c) (tP K f) vs σ H Q := by
  obtain ⟨g, M, env, Qd, s, q, k⟩ := h
  refine ⟨g, M, env, _, s, q, fun ds J H1 q1 g1 it D hD => ?_⟩
  have s1 := s.grow g1
  have DT : D ≠ g.T.t := fun z => by subst z; exact s1.wd.tape.ne hD
  have h0 : g.H0 D = none := by
    cases q : g.H0 D with
    | none => rfl
    | some o => rw [s1.gr D o DT q] at hD; cases hD
  have no : NoOwn (L2.wipe σ vs) (wipeE env vs) D := (s1.noOwn hD).wipe vs
  refine ⟨fun i m H => m = ds.length - i ∧ i ≤ ds.length ∧ ∃ acc dacc, H D = some (.lst acc) ∧ Reps K g.T (fun a => M a ∨ a = D) H acc dacc ∧ SR K g (fun a => M a ∨ a = D) (L2.wipe σ vs) H (wipeE env vs) ∧
      (∀ a o, a ≠ g.T.t → H1 a = some o → H a = some o) ∧ wComp t c f (wipeE env vs) (ds.drop i) dacc Qd, ⟨ds.length, by simp, Nat.zero_le _, [], [], upd_same, .nil, (s1.wipe vs).hide hD _, fun a o _ e => by rw [upd_ne (ne_of_none e hD)]; exact e, by simpa using q1⟩, ?_⟩
  rintro i m H2 ⟨rfl, hi, acc, dacc, hD2, rs, s2, kp, q2⟩
  have ne : ∀ a o, H1 a = some o → a ≠ D := fun a o e => ne_of_none e hD
  obtain ⟨go, stop⟩ := it (fun a => M a ∨ a = D) i H2 (fun a z => z.elim .inl fun z => .inr (by rw [z]; exact hD)) s2.wd fun a o n e => kp a o (fun z => n (by rw [z]; exact s.wd.mT)) e
  rcases Nat.lt_or_ge i ds.length with lt | ge
  · obtain ⟨go, yl⟩ := go lt
    refine .inr ⟨go, fun H => ∃ acc dacc, H D = some (.lst acc) ∧ Reps K g.T (fun a => M a ∨ a = D) H acc dacc ∧ SR K g (fun a => M a ∨ a = D) (L2.wipe σ vs) H (wipeE env vs) ∧
      (∀ a o, a ≠ g.T.t → H1 a = some o → H a = some o) ∧ wComp t c f (wipeE env vs) (ds.drop (i + 1)) dacc Qd, fun H' z => ⟨ds.length - (i + 1), by omega, rfl, lt, z⟩, fun x H3 y => ?_⟩
    obtain ⟨g3, d, ed, r⟩ := yl x H3 y
    have s3 := s2.grow g3
    have dd : ds.drop i = d :: ds.drop (i + 1) := by
      rw [List.drop_eq_getElem_cons lt]
      rw [List.getElem?_eq_getElem lt] at ed
      rw [Option.some.inj ed]
    rw [dd] at q2
    obtain ⟨e4, b4, q4⟩ := q2
    refine tgT_ok vs s3 r b4 fun σ' s4 wp => ⟨(wp hv).trans (wipe_wipe vs vs σ fun _ z => z), ?_⟩
    refine ⟨g, _, e4, _, s4, q4, fun b H4 q5 g4 => ?_⟩
    dsimp only
    have s3' := s3.grow g4
    split at q5
    · rename_i hb
      rw [if_pos hb]
      refine ⟨g, _, e4, _, s4.grow g4, q5, fun d5 v5 H5 q6 g5 r5 => ?_⟩
      have s5 := s3'.grow g5
      have rs5 := s3'.wd.reps g5 (s3.wd.reps g4 (s2.wd.reps g3 rs))
      refine ⟨acc, g5.keep _ _ DT (g4.keep _ _ DT (g3.keep _ _ DT hD2)), by rw [line_eq, rs.length]; exact q6.1, acc ++ [v5], dacc ++ [d5], upd_same, ?_, s5.updH (.inr rfl) DT h0 no _, fun a o n e => ?_, q6.2⟩
      · exact Reps.keep (fun _ _ z => z) (fun a o n h => by rw [upd_ne (fun z => n (.inr z))]; exact h) _ _ (rs5.append (.cons r5 .nil))
      · rw [upd_ne (ne a o e)]
        exact g5.keep _ _ n (g4.keep _ _ n (g3.keep _ _ n (kp a o n e)))
    · rename_i hb
      rw [if_neg hb]
      exact ⟨acc, dacc, g4.keep _ _ DT (g3.keep _ _ DT hD2), s3.wd.reps g4 (s2.wd.reps g3 rs), s3', fun a o n e => g4.keep _ _ n (g3.keep _ _ n (kp a o n e)), q5⟩
  · have : i = ds.length := Nat.le_antisymm hi ge
    subst this
    rw [List.drop_length] at q2
    refine .inl ⟨stop (Nat.le_refl _), k _ _ _ q2 ⟨fun a o n e => kp a o n (g1.keep a o n e), s2.wd.tape.mono fun a _ z => .inl z⟩ ?_⟩
    refine ⟨D, rfl, ?_, acc, hD2, rs⟩
    cases e : H D with
    | none => rfl
    | some o => rw [g1.keep D o DT e] at hD; cases hD
end
section
variable {X : Cx}
theorem ppts_nil : PTs X [] (tPT X.K wYes) := ⟨fun pins s σ H Q I ⟨g, M, env, Qd, sr, q, k⟩ => pts_nil.run pins s σ H Q I (k _ _ q (.refl sr.wd))⟩
theorem ppts_one {c : Expr} {t : FT} (h : PPT X c t) : PTs X [c] (tPT X.K t) := pts_one h
theorem pf_lc {elt tg iter : Expr} {ifs : List Expr} {scope : Scope} {own : List (Str × Nat)} {pos : Pos} {fi : FEs} {t : Tgt} {c : FT} {f : FE} (hc : X.calm = true) (hN : X.N.Nodup) (hv : ∀ i ∈ t.slots, i ∈ own.map (·.2)) (hi : PPI X tg iter fi) (ok : BlkOk X.N X.env.scope scope own)
    (hg : ∀ (s : Shared) (H : Hp) (C : Addr) (cl : List (Str × Addr)) (fp : List Addr), PG (X.blk s H scope (compEnvC scope cl C X.env) fp) tg (tgT X.K t)) (ht : ∀ (s : Shared) (H : Hp) (C : Addr) (cl : List (Str × Addr)) (fp : List Addr), PTs (X.blk s H scope (compEnvC scope cl C X.env) fp) ifs (tPT X.K c))
    (he : ∀ (s : Shared) (H : Hp) (C : Addr) (cl : List (Str × Addr)) (fp : List Addr), PE (X.blk s H scope (compEnvC scope cl C X.env) fp) elt (tP X.K f)) (hs : ∀ x, foldedSetIterable iter X.env x = pure x := by intro _; rfl) :
    PF X (.ListComp elt [⟨tg, iter, ifs, 0⟩] scope pos) (wLc fi t c f (own.map (·.2))) :=
  (pe_lc hc hN hi ok hg ht he hs).imp fun σ H Q h => tLc_of hv σ H Q h
theorem pp_setLc {i : Nat} {y : Str} {py : Pos} {elt tg iter : Expr} {ifs : List Expr} {scope : Scope} {own : List (Str × Nat)} {pos spos : Pos} {fi : FEs} {t : Tgt} {c : FT} {f : FE} (hc : X.calm = true) (hN : X.N.Nodup) (hv : ∀ i ∈ t.slots, i ∈ own.map (·.2)) (hy : X.N[i]? = some y) (hyl : X.env.scope.names.lookup y = some .local)
    (hsw : swapsWith (.ListComp elt [⟨tg, iter, ifs, 0⟩] scope pos) (some (.Name y py)) spos.line X.env = pure true) (hi : PPI X tg iter fi) (ok : BlkOk X.N X.env.scope scope own)
    (hg : ∀ (s : Shared) (H : Hp) (C : Addr) (cl : List (Str × Addr)) (fp : List Addr), PG (X.blk s H scope (compEnvC scope cl C X.env) fp) tg (tgT X.K t)) (ht : ∀ (s : Shared) (H : Hp) (C : Addr) (cl : List (Str × Addr)) (fp : List Addr), PTs (X.blk s H scope (compEnvC scope cl C X.env) fp) ifs (tPT X.K c))
    (he : ∀ (s : Shared) (H : Hp) (C : Addr) (cl : List (Str × Addr)) (fp : List Addr), PE (X.blk s H scope (compEnvC scope cl C X.env) fp) elt (tP X.K f)) (hs : ∀ x, foldedSetIterable iter X.env x = pure x := by intro _; rfl) :
    PPS X (.Assign [.Name y py] (.ListComp elt [⟨tg, iter, ifs, 0⟩] scope pos) spos) (wSet i (wLc fi t c f (own.map (·.2)))) :=
  (ps_setLc hc hN hy hyl hsw hi ok hg ht he hs).imp fun D σ H ⟨g, M, env, A, s, q, k⟩ => tLc_of hv σ H _ ⟨g, M, env, _, s, q, fun d v H' a b c => by
    obtain ⟨l, e, n, r⟩ := c
    subst e
    exact k.nx _ M _ H' a ((s.grow b).setV (r.rep (fun _ z => .inl z) (s.wd.fresh n)))⟩
theorem pp_setLcO {i : Nat} {y : Str} {py : Pos} {elt tg iter : Expr} {ifs : List Expr} {scope : Scope} {own : List (Str × Nat)} {pos spos : Pos} {fi : FEs} {t : Tgt} {c : FT} {f : FE} (hc : X.calm = true) (hN : X.N.Nodup) (hv : ∀ i ∈ t.slots, i ∈ own.map (·.2)) (hy : X.N[i]? = some y) (hyl : X.env.scope.names.lookup y = some .local)
    (hsw : swapsWith (.ListComp elt [⟨tg, iter, ifs, 0⟩] scope pos) (some (.Name y py)) spos.line X.env = pure true) (hi : PPI X tg iter fi) (ok : BlkOk X.N X.env.scope scope own)
    (hg : ∀ (s : Shared) (H : Hp) (C : Addr) (cl : List (Str × Addr)) (fp : List Addr), PG (X.blk s H scope (compEnvC scope cl C X.env) fp) tg (tgT X.K t)) (ht : ∀ (s : Shared) (H : Hp) (C : Addr) (cl : List (Str × Addr)) (fp : List Addr), PTs (X.blk s H scope (compEnvC scope cl C X.env) fp) ifs (tPT X.K c))
    (he : ∀ (s : Shared) (H : Hp) (C : Addr) (cl : List (Str × Addr)) (fp : List Addr), PE (X.blk s H scope (compEnvC scope cl C X.env) fp) elt (tP X.K f)) (hs : ∀ x, foldedSetIterable iter X.env x = pure x := by intro _; rfl) :
    PPS X (.Assign [.Name y py] (.ListComp elt [⟨tg, iter, ifs, 0⟩] scope pos) spos) (wSetO i (wLc fi t c f (own.map (·.2)))) :=
  (ps_setLc hc hN hy hyl hsw hi ok hg ht he hs).imp fun D σ H ⟨g, M, env, A, s, q, k⟩ => tLc_of hv σ H _ ⟨g, M, env, _, s, q, fun d v H' a b c => by
    obtain ⟨M', s'⟩ := s.setO b c
    exact k.nx _ M' _ H' a s'⟩
end
end Pl
end

section
set_option Elab.async false
set_option linter.all false
set_option maxRecDepth 100000
set_option maxHeartbeats 1000000
set_option autoImplicit false
namespace Pl
open PySem PySem.Spec PyProof.Rows L2
section
variable {X : Cx}
/-! ### name op= e -/
theorem pp_aug {i : Nat} {x : Str} {e : Expr} {f : FE} {op : Operator} {ti : TIp} {φ : Op2} {pos pos' : Pos} (hN : X.N.Nodup) (hi : X.N[i]? = some x) (hx : Loc X.env.scope x) (he : PB X e f) (ho : PIp X op ti) (hφ : OpA X.K ti φ)
    (hf : X.fn x = true ∨ X.env.scope.names.lookup x = some .local := by first | exact .inl rfl | exact .inr rfl | assumption) : PPS X (.AugAssign (.Name x pos') op e pos) (wAug i φ f) :=
  (ps_aug hN hi hx he ho hf).imp fun D σ H ⟨g, M, env, A, s, ⟨d, ed, q⟩, k⟩ => by
    obtain ⟨o, eo, v, ev, r⟩ := s.slot ed
    subst ev
    refine ⟨v, eo, g, M, env, _, s, q, fun d1 v1 H1 q1 g1 r1 => ?_⟩
    have s1 := s.grow g1
    exact hφ g.T M H1 v v1 d d1 _ _ s1.wd (s.wd.rep g1 r).b r1 q1 fun d2 v2 H2 q2 g2 r2 => k.nx _ M _ H2 q2 ((s1.grow g2).setV r2)
theorem a_ipadd {K : PySem.W.Frag} : OpA K (ipI fun i j => i + j) (dInt2 (fun _ _ => True) fun i j => .int (i + j)) := opa_int0 fun _ _ _ _ _ => .int _
theorem a_ipsub {K : PySem.W.Frag} : OpA K (ipI fun i j => i - j) (dInt2 (fun _ _ => True) fun i j => .int (i - j)) := opa_int0 fun _ _ _ _ _ => .int _
/-! ### methods that change an own list -/
def MutA (K : PySem.W.Frag) (r : V → List V → Hp → VK → Prop) (φ : MutL) : Prop :=
  ∀ (tp : Tp) (M : Addr → Prop) (H : Hp) (l : Addr) (us : List V) (a : List D) (Q : VK) (Qd : D → List D → Prop) (ds : List D) (vs : List V), Wd K tp M H → M l → l ≠ tp.t → H l = some (.lst us) → Reps K tp M H us a → Reps K tp M H vs ds → φ a ds Qd →
    (∀ x a' v us', Qd x a' → Rep K tp M (upd H l (.lst us')) v x → Reps K tp M (upd H l (.lst us')) us' a' → Q v (upd H l (.lst us'))) → r (.ref l) vs H Q
section
variable {K : PySem.W.Frag} {T : Tp} {M : Addr → Prop} {H : Hp} {l : Addr} {o : HO}
theorem Rep.updM {v : V} {d : D} (ml : M l) (r : Rep K T M H v d) : Rep K T M (upd H l o) v d := Rep.keep (fun _ _ z => z) (fun a o n h => by rw [upd_ne (fun z => n (by rw [z]; exact ml))]; exact h) d v r
theorem Reps.updM {v : List V} {d : List D} (ml : M l) (r : Reps K T M H v d) : Reps K T M (upd H l o) v d := Reps.keep (fun _ _ z => z) (fun a o n h => by rw [upd_ne (fun z => n (by rw [z]; exact ml))]; exact h) d v r
end
theorem m_append {K : PySem.W.Frag} : MutA K rAppend mAppend := by
  intro tp M H l us a Q Qd ds vs w ml lT h r rs q k
  unfold mAppend at q
  split at q
  · obtain ⟨v, ws, e, r1, r2⟩ := rs.inv_cons
    rw [r2.inv_nil] at e
    subst e
    refine ⟨l, us, v, rfl, rfl, h, by rw [line_eq, r.length]; exact q.1, ?_⟩
    exact k _ _ _ _ q.2 .non ((r.append (.cons r1 .nil)).updM ml)
  · exact q.elim
theorem m_extend {K : PySem.W.Frag} : MutA K rExtend mExtend := by
  intro tp M H l us a Q Qd ds vs w ml lT h r rs q k
  unfold mExtend at q
  split at q
  · obtain ⟨v, ws, e, r1, r2⟩ := rs.inv_cons
    rw [r2.inv_nil] at e
    subst e
    obtain ⟨b, zs, eb, hb, rb⟩ := r1.b.lst
    refine ⟨l, b, us, zs, rfl, by rw [eb], h, hb, by rw [line_eq, r.length, rb.length]; exact q.1, ?_⟩
    exact k _ _ _ _ q.2 .non ((r.append rb).updM ml)
  · exact q.elim
theorem ixD_seq {n : Nat} {i : Int} {j : Nat} (h : ixD n i = some j) : seqIndex? i n = some j ∧ j < n := by
  rw [ixD_eq] at h
  obtain ⟨a, b, _⟩ := ixN_seq h
  exact ⟨a, b⟩
theorem m_popAt {K : PySem.W.Frag} : MutA K rPopAt mPopAt := by
  intro tp M H l us a Q Qd ds vs w ml lT h r rs q k
  unfold mPopAt at q
  split at q
  · obtain ⟨v, ws, e, r1, r2⟩ := rs.inv_cons
    rw [r2.inv_nil] at e
    rw [r1.b.int] at e
    subst e
    obtain ⟨⟨b1, b2⟩, j, x, ej, ex, q⟩ := q
    obtain ⟨y, ey, ry⟩ := r.get ex
    have e2 := (ixD_seq ej).1
    refine ⟨l, us, _, j, y, rfl, rfl, h, b1, b2, by rw [r.length]; exact e2, ey, ?_⟩
    exact k _ _ _ _ q (ry.updM ml) ((r.eraseIdx j).updM ml)
  · exact q.elim
section
variable {i : Nat} {x : Str} {id name : String} {m : Str} {r : V → List V → Hp → VK → Prop} {φ : MutL} {e : Expr} {es : List Expr} {fs : FEs} {apos pos pos' p' : Pos}
theorem tMut_of {K : PySem.W.Frag} (hφ : MutA K r φ) {σ : L2.St} {H : Hp} {g : Gh} {M : Addr → Prop} {env : AEnv} {N : AEnv → D → Prop} {N' : VK} (s : SR K g M σ H env)
    (q : ∃ ds, env[i]? = some (.own (.lst ds)) ∧ fs env fun xs => φ ds xs fun x ds' => N (env.set i (.own (.lst ds'))) x)
    (k : ∀ env' M' H' x v, N env' x → SR K g M' σ H' env' → Rep K g.T M' H' v x → N' v H') : tBM K "list" r (tVar i) (tPA K fs) σ H N' := by
  obtain ⟨ds, e, q⟩ := q
  obtain ⟨o, eo, l, el, ml, lT, h0, us, hl, rs⟩ := s.slot e
  subst el
  refine ⟨_, eo, .inl ⟨rfl, us, .of hl⟩, g, M, env, _, s, q, fun xs vs H1 q1 g1 r1 => ?_⟩
  have s1 := s.grow g1
  refine hφ g.T M H1 l us ds _ _ xs vs s1.wd ml lT (g1.keep _ _ lT hl) (s.wd.reps g1 rs) r1 q1 fun x a' v us' q2 r2 rs2 => ?_
  exact k _ M _ _ _ q2 (s1.mut e eo ⟨us', upd_same, rs2⟩) r2
theorem pp_mut (slot : PySem.Slot "list" m id) (hty : typeOf (.builtin id) = pure (.type "method_descriptor")) (hm : MtM X id r) (hφ : MutA X.K r φ) (hN : X.N[i]? = some x) (hv : Vis X.env.scope x) (ha : PPA X (e :: es) fs)
    (hd : (x == ("__debug__" : Str)) = false := by decide) (hcd : (x == ("__classdict__" : Str)) = false := by decide)
    (hbase : attributeBase (.Name x p') m X.env (eval (.Name x p') X.env) = eval (.Name x p') X.env := by rfl)
    (hfew : ((backTo pos' (starEach (e :: es) X.env)).all (fun x => !x.1) && (backToKw pos' (keywordEach [] X.env)).all (fun x => x.1.isSome)
      && decide ((e :: es).length + ([] : List Keyword).length + (if ([] : List Keyword).isEmpty then 0 else 1) < 30)) = true := by rfl)
    (hline : (apos.endLine == pos'.line) = true := by rfl) (hs : starEach (e :: es) X.env = (false, eval e X.env) :: starEach es X.env := by rfl) (hplain : (backTo pos' (starEach es X.env)).any (·.1) = false := by rfl)
    (hsw : swapsWith (.Call (.Attribute (.Name x p') m apos) (e :: es) [] pos') none pos.line X.env = pure false := by rfl) :
    PPS X (.Expr (.Call (.Attribute (.Name x p') m apos) (e :: es) [] pos') pos) (wMut i φ fs) :=
  (ps_expr (pe_bm PySem.F.plainAttrs_list slot hty hm (pe_var hN hv hd hcd) ha hbase hfew hline hs hplain) hsw).imp fun D σ H ⟨g, M, env, A, s, q, k⟩ =>
    tMut_of hφ s (N := fun env' _ => A.nx env') q fun env' M' H' x v a b c => k.nx env' M' σ H' a b
theorem pp_mutSet {j : Nat} {y : Str} {py : Pos} (hNd : X.N.Nodup) (hj : X.N[j]? = some y) (hy : Loc X.env.scope y) (slot : PySem.Slot "list" m id) (hty : typeOf (.builtin id) = pure (.type "method_descriptor")) (hm : MtM X id r) (hφ : MutA X.K r φ) (hN : X.N[i]? = some x) (hv : Vis X.env.scope x) (ha : PPA X (e :: es) fs)
    (hd : (x == ("__debug__" : Str)) = false := by decide) (hcd : (x == ("__classdict__" : Str)) = false := by decide)
    (hbase : attributeBase (.Name x p') m X.env (eval (.Name x p') X.env) = eval (.Name x p') X.env := by rfl)
    (hfew : ((backTo pos' (starEach (e :: es) X.env)).all (fun x => !x.1) && (backToKw pos' (keywordEach [] X.env)).all (fun x => x.1.isSome)
      && decide ((e :: es).length + ([] : List Keyword).length + (if ([] : List Keyword).isEmpty then 0 else 1) < 30)) = true := by rfl)
    (hline : (apos.endLine == pos'.line) = true := by rfl) (hs : starEach (e :: es) X.env = (false, eval e X.env) :: starEach es X.env := by rfl) (hplain : (backTo pos' (starEach es X.env)).any (·.1) = false := by rfl)
    (hsw : swapsWith (.Call (.Attribute (.Name x p') m apos) (e :: es) [] pos') (some (.Name y py)) pos.line X.env = pure false := by rfl)
    (hf : X.fn y = true ∨ X.env.scope.names.lookup y = some .local := by first | exact .inl rfl | exact .inr rfl | assumption) :
    PPS X (.Assign [.Name y py] (.Call (.Attribute (.Name x p') m apos) (e :: es) [] pos') pos) (wMutSet j i φ fs) :=
  (ps_set hNd hj hy (pe_bm PySem.F.plainAttrs_list slot hty hm (pe_var hN hv hd hcd) ha hbase hfew hline hs hplain) hsw hf).imp fun D σ H ⟨g, M, env, A, s, q, k⟩ =>
    tMut_of hφ s (N := fun env' r => A.nx (env'.set j (.val r))) q fun env' M' H' x v a b c => k.nx _ M' _ H' a (b.setV c)
/-! ### own[k] = e -/
theorem pp_put {k : Expr} {fk fe : FE} (hN : X.N[i]? = some x) (hv : Vis X.env.scope x) (he : PP X e fe) (hk : PP X k fk) (hd : (x == ("__debug__" : Str)) = false := by decide) (hcd : (x == ("__classdict__" : Str)) = false := by decide)
    (ha : ∀ v, assign (.Subscript (.Name x p') k pos') X.env v = (do
      let ov ← holding [v] (eval (.Name x p') X.env)
      let iv ← holding [v, ov] (eval k X.env)
      standAt pos'
      holding [v, ov, iv] (setItem ov iv v)
      release [v, ov, iv] []) := by intro _; rfl)
    (hs : swapsWithSole [.Subscript (.Name x p') k pos'] e pos.line X.env = pure false := by rfl) (hw : swappedStores [.Subscript (.Name x p') k pos'] e X.env = pure none := by rfl)
    (h1 : (assignEach [.Subscript (.Name x p') k pos'] X.env).map (·.2) = [assign (.Subscript (.Name x p') k pos') X.env] := by rfl) :
    PPS X (.Assign [.Subscript (.Name x p') k pos'] e pos) (wPut i fk fe) :=
  (ps_asg he (pg_sub (pe_var hN hv hd hcd) hk set_list ha) hs hw h1).imp fun D σ H ⟨g, M, env, A, s, ⟨ds, ed, q⟩, kk⟩ => ⟨g, M, env, _, s, q, fun x v H1 q1 g1 r1 => by
    have s1 := s.grow g1
    obtain ⟨o, eo, l, el, ml, lT, h0, us, hl, rs⟩ := s1.slot ed
    subst el
    refine ⟨_, eo, g, M, env, _, s1, q1, fun kd kv H2 q2 g2 r2 => ?_⟩
    have s2 := s1.grow g2
    split at q2
    · obtain ⟨j, ej, q2⟩ := q2
      refine ⟨l, us, _, j, rfl, r2.b.int, g2.keep _ _ lT hl, by rw [rs.length, ← ixD_eq]; exact ej, ?_⟩
      refine kk.nx _ M _ _ q2 (s2.mut ed eo ⟨us.set j v, upd_same, ?_⟩)
      exact (((s1.wd.reps g2 rs).set j (s1.wd.rep g2 r1))).updM ml
    · exact q2.elim⟩
end
end
end Pl
end

section
set_option Elab.async false
set_option linter.all false
set_option maxRecDepth 100000
set_option maxHeartbeats 1000000
set_option autoImplicit false
namespace Pl
open PySem PySem.Spec PyProof.Rows L2
/-! ### defs -/
section
variable {P : Program} {w : World} {K : PySem.W.Frag} {mg : Str → Option Value} {base : Heap}
/-- a def of the text, as it stands behind the top -/
structure Fnx (K : PySem.W.Frag) (mg : Str → Option Value) (x : Str) (st : Stmt) : Prop where
  ex : ∃ f fd, FunD K x x (defArgs st) (defBody st) (defScope st) [] [] f fd ∧ mg x = some (.ref f)
/-- a def that keeps its promise, by at most level k -/
structure Kn (P : Program) (w : World) (K : PySem.W.Frag) (mg : Str → Option Value) (base : Heap) (k : Nat) (x : Str) (sp : Sp) : Prop where
  ex : ∃ (f : Addr) (fd : FuncData) (ps : List Str), FnOk P w K mg base CX0 k f fd ps sp ∧ mg x = some (.ref f) ∧ PySem.W.keepIn K (.ref f) = true ∧ Binds K fd ps []
abbrev cxN (P : Program) (w : World) (K : PySem.W.Frag) (mg : Str → Option Value) (base : Heap) (N : List Str) (x : Str) (sc : Scope) (f : Addr) (cdv : Value) (A : Around) (outer : List Env) (s : Shared) (H : Hp) (E : XK) : Cx := (cxOf CX0 P w K mg base N x sc f cdv A outer s H E).nox
theorem Kn.df {k j : Nat} {x : Str} {φ : Fn} {X : Cx} (h : Kn X.prog X.w X.K X.mg X.base k x (spP X.K φ)) (hr : Room j X.A) (hk : k ≤ j) : Df X x φ := by
  obtain ⟨f, fd, ps, F, hm, kp, b⟩ := h.ex
  exact ⟨k, f, fd, ps, F, hr.mono hk, hm, kp, b⟩
theorem sr_start {T : Tp} {M : Addr → Prop} {H : Hp} {vs : List V} {ds : List D} {N : List Str} (wd : Wd K T M H) (r : Reps K T M H vs ds) :
    SR K ⟨T, M, H, wd.mT, wd.md⟩ M (L2.start N vs) H (startE N.length ds) where
  wd := wd
  m0 := fun _ z => z
  mh := fun _ z => .inl z
  gr := fun _ _ _ e => e
  len := by simp [L2.start, startE, r.length]
  sl := fun i s e => by
    unfold startE at e
    rcases Nat.lt_or_ge i ds.length with h | h
    · rw [List.getElem?_append_left (by simpa using h)] at e
      rw [List.getElem?_map, List.getElem?_eq_getElem h] at e
      cases e
      obtain ⟨v, ev, rv⟩ := r.get (List.getElem?_eq_getElem h)
      refine ⟨v, ?_, rv⟩
      have h' : i < vs.length := by rw [r.length]; exact h
      unfold L2.start
      rw [List.getD_eq_getElem?_getD, List.getElem?_append_left (by simpa using h'), List.getElem?_map, ev]
      rfl
    · rw [List.getElem?_append_right (by simpa using h)] at e
      have := List.mem_of_getElem? e
      rw [(List.mem_replicate.mp this).2]
      trivial
  dis := fun i j l d e _ e1 => by
    exfalso
    unfold startE at e1
    have := List.mem_of_getElem? e1
    rcases List.mem_append.mp this with h | h
    · obtain ⟨_, _, z⟩ := List.mem_map.mp h; cases z
    · have := (List.mem_replicate.mp h).2; cases this
theorem kn_of {x : Str} {st : Stmt} {N ps : List Str} {k : Nat} {φ : Fn} {Fb : FS} (F : Fnx K mg x st) (S : FnScope N ps (defScope st))
    (hb : ∀ (kV doc pm : Value) (an : Option Addr) (cdv ct : Value) (us : List Value), us.length = ps.length → bindArgs (PySem.W.fnOf x x (defArgs st) (defBody st) (defScope st) .none kV doc pm an cdv ct) ⟨us, []⟩ = pure (ps.zip us))
    (hlen : ∀ ds Q, φ ds Q → ds.length = ps.length)
    (hbody : ∀ (f : Addr) (cdv : Value) (A : Around) (outer : List Env) (s : Shared) (H : Hp) (E : XK), Room k (A.deeper (envOfC x (defScope st) s.heap.objs.size f cdv)) → PPSs (cxN P w K mg base N x (defScope st) f cdv A outer s H E) (defBody st) Fb)
    (hread : ∀ ds Q, φ ds Q → Fb (AEnds.fn Q) (startE N.length ds)) : Kn P w K mg base (k + 1) x (spP K φ) := by
  obtain ⟨f, fd, F, hm⟩ := F.ex
  refine ⟨f, fd, ps, F.ok S ?_ ?_, hm, F.kp, F.bindsN hb⟩
  · rintro vs H Q E ⟨T, M, ds, Qd, wd, r, q, _⟩
    rw [r.length]
    exact hlen _ _ q
  · rintro cdv A outer s H vs Q E hr ⟨T, M, ds, Qd, wd, r, q, kk⟩
    refine ⟨_, PSs.nox (hbody f cdv A outer s H E hr), ⟨T, M, H, wd.mT, wd.md⟩, M, _, { nx := fun _ => Qd .non, rt := Qd }, sr_start wd r, hread ds Qd q, ?_⟩
    exact ⟨fun env M' σ H' a b => kk _ _ _ a b.grow0 .non, fun d v H' a b c => kk d v H' a b c, fun _ _ _ _ z => z.elim, fun _ _ _ _ z => z.elim⟩
end
end Pl
namespace Pl
open PySem PySem.Spec PyProof.Rows L2
/-- a statement, and what holds behind it -/
theorem ps_cut {X : Cx} {st : Stmt} {t : TS} (I : L2.St → Hp → Prop) (h : PS X st t) : PS X st (fun D σ H => t { D with nx := I } σ H ∧ ∀ σ' H', I σ' H' → D.nx σ' H') := by
  refine ⟨fun pins s σ H D Iv ⟨q, k⟩ => thn (h.run pins s σ H _ Iv q) fun f s' z => ?_⟩
  cases f with
  | next => obtain ⟨σ', H', I', q'⟩ := z; exact ⟨σ', H', I', k _ _ q'⟩
  | ret v => exact z
  | brk => exact z
  | cont => exact z
end Pl
namespace Pl
open PySem PySem.Spec PyProof.Rows L2
/-- the tape in a draw -/
def DrawI (K : PySem.W.Frag) (T : Tp) (H0 H : Hp) : Prop := ∃ (k acc mix : Int) (cells : List Int), H T.t = some (.lst [.ref T.c, .int k, .int acc, .int mix]) ∧ H T.c = some (.lst (cells.map V.int)) ∧ 0 ≤ k ∧ 0 ≤ acc ∧ 0 ≤ mix ∧ ∀ a o, a ≠ T.t → H0 a = some o → H a = some o
/-- a tape is made -/
def spTape (K : PySem.W.Frag) : Sp := fun vs H Q _ => ∃ (a : Addr) (ns : List Int), vs = [.ref a] ∧ SqL K H a (ns.map V.int) ∧
  ∀ (H' : Hp) (T : Tp) (mix : Int), (∀ b o, H b = some o → H' b = some o) → T.c ≠ T.t → H' T.t = some (.lst [.ref T.c, .int 0, .int 0, .int mix]) → H' T.c = some (.lst (ns.map V.int)) → 0 ≤ mix → Q (.ref T.t) H'
def spLaw (K : PySem.W.Frag) : Sp := fun vs H Q _ => ∃ (a : Addr) (ns : List Int), vs = [.ref a] ∧ SqL K H a (ns.map V.int) ∧ ∀ H', Q (.bl true) H'
section
variable {P : Program} {w : World} {K : PySem.W.Frag} {mg : Str → Option Value} {base : Heap}
/-- the law: its tape is made, the rest is read as data -/
theorem law_ok {x : Str} {params : Arguments} {body : List Stmt} {sc : Scope} {dvs : List V} {kws : List (Str × V)} {f : Addr} {fd : FuncData} {N : List Str} {k : Nat} {Fb : FS} (F : FunD K x x params body sc dvs kws f fd) (S : FnScope N ["script"] sc) (hN : 2 ≤ N.length)
    (hbody : ∀ (cdv : Value) (A : Around) (outer : List Env) (s : Shared) (H : Hp) (E : XK), Room k (A.deeper (envOfC x sc s.heap.objs.size f cdv)) →
      PSs (cxN P w K mg base N x sc f cdv A outer s H E) body (tSeq (tAsg (tCall (spTape K) [] E0 (tCons (tVar 0) tNil)) (gName 1)) (tPS K Fb)))
    (hread : Fb AEnds.law (.non :: .val .tape :: List.replicate (N.length - 2) .non)) : FnOk P w K mg base CX0 (k + 1) f fd ["script"] (spLaw K) := by
  refine F.ok S ?_ ?_
  · rintro vs H Q E ⟨a, ns, rfl, _⟩
    rfl
  · rintro cdv A outer s H vs Q E hr ⟨a, ns, rfl, hS, kk⟩
    refine ⟨_, PSs.nox (hbody cdv A outer s H E hr), ?_⟩
    obtain ⟨n, hn⟩ : ∃ n, N.length = n + 2 := ⟨N.length - 2, by omega⟩
    have e0 : L2.start N [V.ref a] = some (.ref a) :: none :: List.replicate n none := by
      unfold L2.start
      rw [hn]
      simp [List.replicate_succ]
    rw [e0]
    refine ⟨_, rfl, a, ns, rfl, hS, fun H' T mix kp ne hT hC m0 => ?_⟩
    refine ⟨⟨T, fun b => b = T.t, H', rfl, fun b e => by rw [e, hT]; simp⟩, fun b => b = T.t, _, AEnds.law, ?_, hread, ⟨fun _ _ _ _ z => z.elim, fun d v H a _ c => ?_, fun _ _ _ _ z => z.elim, fun _ _ _ _ z => z.elim⟩⟩
    · refine ⟨⟨⟨0, 0, mix, ns, hT, hC, ne, by omega, by omega, m0⟩, rfl, fun b e => by rw [e, hT]; simp⟩, fun _ z => z, fun _ z => .inl z, fun _ _ _ e => e, ?_, fun i s e => ?_, fun i j l d e _ e1 => ?_⟩
      · show ((some (V.ref a) :: none :: List.replicate n none).set 1 _).length = _
        simp [hn]
      · match i, e with
        | 0, e => cases e; trivial
        | 1, e => cases e; exact ⟨_, rfl, .tape⟩
        | i + 2, e =>
          have e : (List.replicate (N.length - 2) Slot.non)[i]? = some s := e
          rw [(List.mem_replicate.mp (List.mem_of_getElem? e)).2]
          trivial
      · match i, e1 with
        | 0, e1 => cases e1
        | 1, e1 => cases e1
        | i + 2, e1 =>
          have e1 : (List.replicate (N.length - 2) Slot.non)[i]? = some (.own d) := e1
          have := (List.mem_replicate.mp (List.mem_of_getElem? e1)).2
          cases this
    · have a : d = .bl true := a
      subst a
      cases c
      exact kk _
end
end Pl
end

section
set_option Elab.async false
set_option linter.all false
set_option maxRecDepth 100000
set_option maxHeartbeats 1000000
set_option autoImplicit false
namespace Pl
open PySem PySem.Spec PyProof.Rows L2
/-! ### isinstance of a built-in type -/
theorem kitB_all : ∀ T ∈ ["bool", "int", "str", "tuple", "list"], ∀ t ∈ ["NoneType", "bool", "int", "str", "tuple", "list", "dict"], kitB t T = some (decide (t = T) || (decide (t = "bool") && decide (T = "int"))) := by decide +kernel
theorem BRep.ty {K : PySem.W.Frag} {T : Tp} {M : Addr → Prop} {H : Hp} {v : V} {d : D} {t : String} (r : BRep K T M H v d) (e : tyName d = some t) : TyX K H v (.type t) ∧ t ∈ ["NoneType", "bool", "int", "str", "tuple", "list", "dict"] := by
  rcases r with r | ⟨l, e1, _, _, r⟩
  · cases r <;> (unfold tyName at e) <;> (cases e) <;> refine ⟨?_, by decide⟩
    · exact .base .non
    · exact .base (.bl _)
    · exact .base (.int _)
    · exact .base (.str _)
    · rename_i h _ _; exact .base (.tup h)
    · rename_i h _
      rcases h with (h | ⟨o, h⟩) | ⟨o, its, n, hk, hc, _⟩
      · cases h
      · cases h
      · exact .kTuple hk hc
    · rename_i h _ _; exact .base (.lst h)
    · rename_i h _ _ _; exact .base (.dK h)
    · rename_i h _ _ _; exact .base (.dT h)
  · subst e1
    cases d with
    | lst ds => obtain ⟨vs, h, _⟩ := r; unfold tyName at e; cases e; exact ⟨.base (.lst h), by decide⟩
    | dk ks ds => obtain ⟨vs, h, _⟩ := r; unfold tyName at e; cases e; exact ⟨.base (.dK h), by decide⟩
    | dt ks ds => obtain ⟨vs, h, _⟩ := r; unfold tyName at e; cases e; exact ⟨.base (.dT h), by decide⟩
    | obj c ns ds => unfold tyName at e; cases e
    | _ => exact r.elim
section
variable {X : Cx} {e : Expr} {f : FE} {p p2 pos : Pos}
theorem pp_isi {T : String} {y : Str} (hT : T ∈ ["bool", "int", "str", "tuple", "list"]) (hg : Gl X "isinstance") (hm : X.mg "isinstance" = none) (hg2 : Gl X y) (hm2 : X.mg y = none) (hv2 : bootBuiltins y = some (.type T)) (ha : PB X e f)
    (hn : y ≠ "__name__" := by decide) (hd : (y == ("__debug__" : Str)) = false := by decide)
    (hs : starEach [e, .Name y p2] X.env = (false, eval e X.env) :: starEach [.Name y p2] X.env := by rfl) (hs2 : starEach [.Name y p2] X.env = (false, eval (.Name y p2) X.env) :: starEach [] X.env := by rfl)
    (hpl : (backTo pos (starEach [.Name y p2] X.env)).any (·.1) = false := by rfl) :
    PP X (.Call (.Name "isinstance" p) [e, .Name y p2] [] pos) (wIsi T f) :=
  PE.imp (pe_callB call_isi hg hm (by decide +kernel) (pa_cons ha (pa_cons (pe_bltn (v := .ty T) hg2 hm2 hv2 rfl hn hd) pa_nil hs2) hs) (by decide) (by decide) hs hpl) fun σ H Q ⟨g, M, env, Qd, s, q, k⟩ => ⟨g, M, env, _, s, q, fun d v H1 q1 g1 r1 => by
    split at q1
    · rename_i t et
      obtain ⟨ty, mt⟩ := r1.ty et
      exact ⟨v, .ty T, _, _, _, rfl, .ty T, ty, kit_ty (kitB_all T hT _ mt), k _ _ _ q1 g1 (.bl _)⟩
    · exact q1.elim⟩
end
/-! ### several names at once -/
section
variable {X : Cx}
theorem setAll2 {K : PySem.W.Frag} {g : Gh} {M : Addr → Prop} {H : Hp} {σ : L2.St} {env e : AEnv} {i j : Nat} {v w : V} {ds : List D} (s : SR K g M σ H env) (r : Reps K g.T M H [v, w] ds) (h : setAll [i, j] ds env = some e) : SR K g M ((σ.set i (some v)).set j (some w)) H e := by
  cases r with
  | cons r1 r =>
    cases r with
    | cons r2 r =>
      cases r
      cases h
      exact (s.setV r1).setV r2
theorem pp_par2 {i0 i1 : Nat} {x y : Str} {a b : Expr} {fs : FEs} {px py pt pos : Pos} {kt k2 pt2} (hc : X.calm = true) (hN : X.N.Nodup) (hi : X.N[i0]? = some x) (hj : X.N[i1]? = some y) (hij : i0 ≠ i1)
    (hx : X.env.scope.names.lookup x = some .local) (hy : X.env.scope.names.lookup y = some .local) (ha : PPA X [a, b] fs)
    (hw : swappedStores [.Tuple [.Name x px, .Name y py] kt pt] (.Tuple [a, b] k2 pt2) X.env = pure (some [x, y]))
    (hs : swapsWithSole [.Tuple [.Name x px, .Name y py] kt pt] (.Tuple [a, b] k2 pt2) pos.line X.env = pure false := by rfl) :
    PPS X (.Assign [.Tuple [.Name x px, .Name y py] kt pt] (.Tuple [a, b] k2 pt2) pos) (wPar [i0, i1] fs) :=
  (ps_par hc hN hi hj hij hx hy ha hw hs).imp fun D σ H ⟨g, M, env, A, s, q, k⟩ => ⟨g, M, env, _, s, q, fun ds vs H' ⟨e, h, a⟩ b c => by
    obtain ⟨d1, d2, rfl⟩ : ∃ d1 d2, ds = [d1, d2] := by
      match ds, h with
      | [d1, d2], _ => exact ⟨_, _, rfl⟩
      | [], h => cases h
      | [_], h => cases h
      | _ :: _ :: _ :: _, h => cases h
    obtain ⟨v, us, rfl, r1, r⟩ := c.inv_cons
    obtain ⟨w, us, rfl, r2, r⟩ := r.inv_cons
    cases r.inv_nil
    exact ⟨v, w, rfl, k.nx e M _ H' a (setAll2 (s.grow b) (.cons r1 (.cons r2 .nil)) h)⟩⟩
/-- a, b, c = .. with plain local names -/
def tPar3 (i j l : Nat) (ta : TA) : TS := fun D σ H => ta σ H fun vs H1 => ∃ v w u, vs = [v, w, u] ∧ D.nx (((σ.set i (some v)).set j (some w)).set l (some u)) H1
theorem ps_par3 {i j l : Nat} {x y z : Str} {a b c : Expr} {ta : TA} {px py pz pt pos : Pos} {kt k2 pt2} (hc : X.calm = true) (hN : X.N.Nodup) (hi : X.N[i]? = some x) (hj : X.N[j]? = some y) (hl : X.N[l]? = some z) (hij : i ≠ j ∧ i ≠ l ∧ j ≠ l)
    (hx : X.env.scope.names.lookup x = some .local) (hy : X.env.scope.names.lookup y = some .local) (hz : X.env.scope.names.lookup z = some .local) (ha : PA X [a, b, c] ta)
    (hw : swappedStores [.Tuple [.Name x px, .Name y py, .Name z pz] kt pt] (.Tuple [a, b, c] k2 pt2) X.env = pure (some [x, y, z]))
    (hs : swapsWithSole [.Tuple [.Name x px, .Name y py, .Name z pz] kt pt] (.Tuple [a, b, c] k2 pt2) pos.line X.env = pure false := by rfl) :
    PS X (.Assign [.Tuple [.Name x px, .Name y py, .Name z pz] kt pt] (.Tuple [a, b, c] k2 pt2) pos) (tPar3 i j l ta) := by
  refine ⟨fun pins s σ H D I h => ?_⟩
  rw [exec_Assign_arm]
  refine wpAny_bind (wpAny_standAt ?_)
  rw [hs]
  refine wpAny_bind (wpAny_pure ?_)
  rw [if_neg (by decide)]
  refine wpAny_bind (Tuple_ (thn (ha.run _ pins s σ H _ I h) fun us s1 ⟨vs, H1, I1, r1, q1⟩ => ?_))
  obtain ⟨v, w, u, e1, q1⟩ := q1
  subst e1
  obtain ⟨u1, u2, u3, rfl, rv, rw', ru⟩ : ∃ u1 u2 u3, us = [u1, u2, u3] ∧ RelV v u1 ∧ RelV w u2 ∧ RelV u u3 := by
    cases r1 with
    | cons p q =>
      cases q with
      | cons p' q' =>
        cases q' with
        | cons p'' q'' =>
          cases q''
          exact ⟨_, _, _, rfl, p, p', p''⟩
  refine wpAny_newObj_type ?_ (by show 3 ≤ sizeLine; decide)
  have I2 : Inv X pins σ H1 { s1 with heap := s1.heap.push { cls := .type "tuple", data := .seq [u1, u2, u3].toArray } } := I1.kept (t' := s1.toks) fun b o e => Heap.get?_push_of_some _ e
  rw [hw]
  refine wpAny_bind (wpAny_pure ?_)
  show wpAny (model X.prog X.w) X.A (do rule "assign.swapped-stores"; let items ← unpackItems (.ref s1.heap.objs.size) 3 none; assignInOrder [fun v => bindName X.env z v, fun v => bindName X.env y v, fun v => bindName X.env x v] items.reverse; pure Flow.next) _ _ _
  refine wpAny_bind (wpAny_rule (wpAny_bind (unpackItems_tuple (items := #[u1, u2, u3]) (I.ok.hd hc) (IsTup.new s1.heap _) fun h' hx' => ?_)))
  have I3 := I2.kept (h' := h') (t' := s1.toks) fun b o e => hx' b o (Nat.ne_of_lt (Heap.lt_size e)) e
  show wpAny _ _ (assignInOrder [fun v => bindName X.env z v, fun v => bindName X.env y v, fun v => bindName X.env x v] [u3, u2, u1] >>= fun _ => pure Flow.next) _ _ _
  refine wpAny_bind (assignInOrder_cons (wpAny_bindName (store_ok I3 hN hl (.inl hz) ru (fun s2 I4 => ?_) (.inr hz))))
  refine assignInOrder_cons (wpAny_bindName (store_ok I4 hN hj (.inl hy) rw' (fun s3 I5 => ?_) (.inr hy)))
  refine assignInOrder_cons (wpAny_bindName (store_ok I5 hN hi (.inl hx) rv (fun s4 I6 => assignInOrder_nil (wpAny_pure ?_)) (.inr hx)))
  have e : ((σ.set l (some u)).set j (some w)).set i (some v) = ((σ.set i (some v)).set j (some w)).set l (some u) := by
    rw [List.set_comm _ _ (Ne.symm hij.2.2), List.set_comm _ _ (Ne.symm hij.2.1), List.set_comm _ _ (Ne.symm hij.1)]
  rw [e] at I6
  exact ⟨_, H1, I6, q1⟩
theorem pp_par3 {i0 i1 i2 : Nat} {x y z : Str} {a b c : Expr} {fs : FEs} {px py pz pt pos : Pos} {kt k2 pt2} (hc : X.calm = true) (hN : X.N.Nodup) (hi : X.N[i0]? = some x) (hj : X.N[i1]? = some y) (hl : X.N[i2]? = some z) (hij : i0 ≠ i1 ∧ i0 ≠ i2 ∧ i1 ≠ i2)
    (hx : X.env.scope.names.lookup x = some .local) (hy : X.env.scope.names.lookup y = some .local) (hz : X.env.scope.names.lookup z = some .local) (ha : PPA X [a, b, c] fs)
    (hw : swappedStores [.Tuple [.Name x px, .Name y py, .Name z pz] kt pt] (.Tuple [a, b, c] k2 pt2) X.env = pure (some [x, y, z]))
    (hs : swapsWithSole [.Tuple [.Name x px, .Name y py, .Name z pz] kt pt] (.Tuple [a, b, c] k2 pt2) pos.line X.env = pure false := by rfl) :
    PPS X (.Assign [.Tuple [.Name x px, .Name y py, .Name z pz] kt pt] (.Tuple [a, b, c] k2 pt2) pos) (wPar [i0, i1, i2] fs) :=
  (ps_par3 hc hN hi hj hl hij hx hy hz ha hw hs).imp fun D σ H ⟨g, M, env, A, s, q, k⟩ => ⟨g, M, env, _, s, q, fun ds vs H' ⟨e, h, a⟩ b c => by
    obtain ⟨d1, d2, d3, rfl⟩ : ∃ d1 d2 d3, ds = [d1, d2, d3] := by
      match ds, h with
      | [d1, d2, d3], _ => exact ⟨_, _, _, rfl⟩
      | [], h => cases h
      | [_], h => cases h
      | [_, _], h => cases h
      | _ :: _ :: _ :: _ :: _, h => cases h
    obtain ⟨v, us, rfl, r1, r⟩ := c.inv_cons
    obtain ⟨w, us, rfl, r2, r⟩ := r.inv_cons
    obtain ⟨u, us, rfl, r3, r⟩ := r.inv_cons
    cases r.inv_nil
    cases h
    exact ⟨v, w, u, rfl, k.nx _ M _ H' a ((((s.grow b).setV r1).setV r2).setV r3)⟩⟩
theorem pp_par3o {i0 i1 i2 : Nat} {x y z : Str} {a b c : Expr} {fa fb fc : FE} {px py pz pt pos : Pos} {kt k2 pt2} (hc : X.calm = true) (hN : X.N.Nodup) (hi : X.N[i0]? = some x) (hj : X.N[i1]? = some y) (hl : X.N[i2]? = some z) (hij : i0 ≠ i1 ∧ i0 ≠ i2 ∧ i1 ≠ i2)
    (hx : X.env.scope.names.lookup x = some .local) (hy : X.env.scope.names.lookup y = some .local) (hz : X.env.scope.names.lookup z = some .local) (ha : PP X a fa) (hb : PP X b fb) (hcc : PF X c fc)
    (hw : swappedStores [.Tuple [.Name x px, .Name y py, .Name z pz] kt pt] (.Tuple [a, b, c] k2 pt2) X.env = pure (some [x, y, z]))
    (hs : swapsWithSole [.Tuple [.Name x px, .Name y py, .Name z pz] kt pt] (.Tuple [a, b, c] k2 pt2) pos.line X.env = pure false := by rfl)
    (s1 : starEach [a, b, c] X.env = (false, eval a X.env) :: starEach [b, c] X.env := by rfl) (s2 : starEach [b, c] X.env = (false, eval b X.env) :: starEach [c] X.env := by rfl) (s3 : starEach [c] X.env = (false, eval c X.env) :: starEach [] X.env := by rfl) :
    PPS X (.Assign [.Tuple [.Name x px, .Name y py, .Name z pz] kt pt] (.Tuple [a, b, c] k2 pt2) pos) (wPar3O i0 i1 i2 fa fb fc) :=
  (ps_par3 hc hN hi hj hl hij hx hy hz (pa_cons ha (pa_cons hb (pa_cons hcc pa_nil s3) s2) s1) hw hs).imp fun D σ H ⟨g, M, env, A, s, q, k⟩ =>
    ⟨g, M, env, _, s, q, fun x v H1 q1 g1 r1 => ⟨g, M, env, _, s.grow g1, q1, fun y w H2 q2 g2 r2 => ⟨g, M, env, _, (s.grow g1).grow g2, q2, fun z u H3 q3 g3 r3 => by
      obtain ⟨M', s'⟩ := ((((s.grow g1).grow g2).setV (i := i0) ((s.grow g1).wd.rep g2 r1)).setV (i := i1) r2).setO (i := i2) g3 r3
      exact ⟨v, w, u, rfl, k.nx _ M' _ H3 q3 s'⟩⟩⟩⟩
end
end Pl
end

section
set_option Elab.async false
set_option linter.all false
set_option maxRecDepth 100000
set_option maxHeartbeats 1000000
set_option autoImplicit false
namespace Pl
open PySem PySem.Spec PyProof.Rows L2 He
/-! ### the head's facts: any that can be read off K, and the defs -/
abbrev KB := PySem.W.Frag → Bool
def obsB (bs : List KB) (fn : List DefD) (K : PySem.W.Frag) : AlD := ((bs.all fun f => f K) && fn.all fun d => d.ok K, fn.map fun d => fnW K d.at_)
def SaysB (bs : List KB) (fn : List DefD) (K : PySem.W.Frag) : Prop := obsB bs fn K = valD fn
def obsBG (n : Nat) (bs : List KB) (fn : List DefD) (g : Addr → Option Obj) : AlD := obsB bs fn (frG g (asD g n))
def hookB (n : Nat) (bs : List KB) (fn : List DefD) : PySem.W.Hook where
  α := AlD
  obs := fun s => obsBG n bs fn s.heap.get?
  val := fun _ => valD fn
  says := fun _ h => ∃ K : PySem.W.Frag, K.In h ∧ SaysB bs fn K
  of := fun _ _ e => ⟨_, frG_in, e⟩
  keeps := fun _ _ _ ⟨K, hK, c⟩ k => ⟨K, PySem.W.Frag.In.keeps hK k, c⟩
theorem obsBG_eq {n : Nat} {bs : List KB} {fn : List DefD} {g : Addr → Option Obj} {s : Shared} (h : ∀ a, g a = s.heap.get? a) : obsBG n bs fn g = (hookB n bs fn).obs s := by
  have e : g = s.heap.get? := funext h
  rw [e] <;> rfl
section
variable {bs : List KB} {fn : List DefD} {K : PySem.W.Frag}
theorem SaysB.fact (c : SaysB bs fn K) (i : Nat) {f : KB} (h : bs[i]? = some f := by rfl) : f K = true := by
  have c1 := (ba (show ((bs.all fun f => f K) && fn.all fun d => d.ok K) = true from congrArg (fun z : AlD => z.1) c)).1
  exact List.all_eq_true.mp c1 f (List.mem_of_getElem? h)
theorem SaysB.def_ (c : SaysB bs fn K) (i : Nat) {d : DefD} (h : fn[i]? = some d := by rfl) : ∃ fd, FunD K d.name d.qual d.params d.body d.scope (d.dvs K) (d.kws K) (fAd K d.at_) fd := by
  have c2 := (ba (show ((bs.all fun f => f K) && fn.all fun d => d.ok K) = true from congrArg (fun z : AlD => z.1) c)).2
  have e : fn.map (fun d => fnW K d.at_) = fn.map DefD.val := congrArg (fun z : AlD => z.2) c
  have e2 : (fn.map fun d => fnW K d.at_)[i]? = (fn.map DefD.val)[i]? := by rw [e]
  rw [List.getElem?_map, List.getElem?_map, h] at e2
  exact DefD.funD (Option.some.inj e2) (List.all_eq_true.mp c2 d (List.mem_of_getElem? h))
end
/-- a def of the module -/
def dOf (x : Str) (st : Stmt) : DefD := ⟨(x, none), x, x, defArgs st, defBody st, defScope st, [], []⟩
/-- a method -/
def mOf (c m q : Str) (st : Stmt) : DefD := ⟨(c, some m), m, q, defArgs st, defBody st, defScope st, [], []⟩
/-- the module's name x stands for an object -/
def kGlo (x : Str) : KB := fun K => (Fa.glo x).ok K
/-- .. is free -/
def kFree (x : Str) : KB := fun K => (Fa.free x).ok K
/-- .. is a built-in function -/
def kBlt (x : Str) (b : String) : KB := fun K => eqO (PySem.W.nsIn K mainGlobals x) (some (some (.builtin b)))
/-- .. is a tuple of these -/
def kTup (x : Str) (vs : List Dv) : KB := fun K => (Fa.glo x).ok K && tupB K x vs
section
variable {K : PySem.W.Frag} {h : Heap} {mg : Str → Option Value} {bs : List KB} {fn : List DefD}
theorem fnx_of (X : K.In h) (G : h.Ns mainGlobals mg) (c : SaysB bs fn K) (i j : Nat) {x : Str} {st : Stmt} (e1 : fn[i]? = some (dOf x st) := by rfl) (e2 : bs[j]? = some (kGlo x) := by rfl) : Fnx K mg x st := by
  obtain ⟨fd, F⟩ := c.def_ i e1
  exact ⟨_, fd, F, glo_ok X G (c.fact j e2)⟩
theorem free_of (X : K.In h) (G : h.Ns mainGlobals mg) (c : SaysB bs fn K) (j : Nat) {x : Str} (e2 : bs[j]? = some (kFree x) := by rfl) : mg x = none := free_ok X G (c.fact j e2)
theorem blt_of (X : K.In h) (G : h.Ns mainGlobals mg) (c : SaysB bs fn K) (j : Nat) {x : Str} {b : String} (e2 : bs[j]? = some (kBlt x b) := by rfl) : mg x = some (.builtin b) := PySem.W.mg_of X G (eqO_ok (c.fact j e2))
/-- a module's constant as data -/
structure Cst (K : PySem.W.Frag) (mg : Str → Option Value) (x : Str) (d : D) : Prop where
  ex : ∃ a, mg x = some (.ref a) ∧ ∀ T M H, Rep K T M H (.ref a) d
def ofDv : Dv → D
  | .non => .non
  | .bl b => .bl b
  | .int i => .int i
  | .str x => .str x
  | _ => .non
def flatDv : Dv → Bool
  | .non => true
  | .bl _ => true
  | .int _ => true
  | .str _ => true
  | _ => false
theorem cst_of (X : K.In h) (G : h.Ns mainGlobals mg) (c : SaysB bs fn K) (j : Nat) {x : Str} {vs : List Dv} (e2 : bs[j]? = some (kTup x vs) := by rfl) (hf : vs.all flatDv = true := by rfl) : Cst K mg x (.tup (vs.map ofDv)) := by
  obtain ⟨h1, h2⟩ := ba (show ((Fa.glo x).ok K && tupB K x vs) = true from c.fact j e2)
  refine ⟨_, glo_ok X G h1, fun T M H => .wtup (tupB_ok h2 _) ?_⟩
  clear h2 e2
  induction vs with
  | nil => exact .nil
  | cons v vs ih =>
    rw [List.all_cons, Bool.and_eq_true] at hf
    refine .cons ?_ (ih hf.2)
    cases v with
    | non => exact .non
    | bl b => exact .bl b
    | int i => exact .int i
    | str x => exact .str x
    | _ => cases hf.1
end
theorem pp_cst {X : Cx} {x : Str} {d : D} {pos : Pos} (c : Cst X.K X.mg x d) (hg : Gl X x) (hd : (x == ("__debug__" : Str)) = false := by decide) : PP X (.Name x pos) (wC d) := by
  obtain ⟨a, hm, r⟩ := c.ex
  exact pp_glob (v := .ref a) hg hm rfl r hd
end Pl
end

section
set_option Elab.async false
set_option linter.all false
set_option maxRecDepth 100000
set_option maxHeartbeats 1000000
set_option autoImplicit false
namespace Pl
open PySem PySem.Spec PyProof.Rows L2 RZ
/-! more of what is walked: pairs, counted, backwards -/
section
variable {K : PySem.W.Frag} {T : Tp} {M M' : Addr → Prop} {H H1 : Hp}
theorem it_down {i j : Int} : ItOk K T M (Itc i (-1) (i - j).toNat) (rngDn i (i - j).toNat) H1 := by
  intro M' n H hM w kp
  have hl : (rngDn i (i - j).toNat).length = (i - j).toNat := by simp [rngDn]
  rw [hl]
  refine ⟨fun lt => ⟨lt, fun x H' y => ?_⟩, fun ge => ge⟩
  obtain ⟨e, y⟩ := y
  subst e y
  refine ⟨.refl w, .int (i - n), ?_, ?_⟩
  · simp [rngDn, lt]
  · rw [show i + (n : Int) * (-1) = i - n by omega]; exact .int _
theorem new_pair {H : Hp} {T' : Addr} {x y : V} {dx dy : D} (w : Wd K T M H) (hT : H T' = none) (rx : Rep K T M H x dx) (ry : Rep K T M H y dy) :
    Grow K T M H (upd H T' (.tup [x, y])) ∧ Rep K T M (upd H T' (.tup [x, y])) (.ref T') (.tup [dx, dy]) := by
  have g : Grow K T M H (upd H T' (.tup [x, y])) := .new w hT
  exact ⟨g, .tup upd_same (w.fresh hT) (.cons (w.rep g rx) (.cons (w.rep g ry) .nil))⟩
theorem it_rev {a : Addr} {vs : List V} {ds : List D} (h : H1 a = some (.lst vs)) (n : ¬ M a) (r : Reps K T M H1 vs ds) : ItOk K T M (Itv K a vs.length) ds.reverse H1 := by
  intro M' i H hM w kp
  have h2 := kp a _ n h
  have r2 := r.later hM kp
  have hl := r.length
  rw [List.length_reverse]
  refine ⟨fun lt => ?_, fun ge => by show vs.length ≤ i; omega⟩
  have e : ds[vs.length - 1 - i]? = some (ds[vs.length - 1 - i]'(by omega)) := List.getElem?_eq_getElem _
  obtain ⟨v, ev, rv⟩ := r2.get e
  refine ⟨⟨by omega, vs, v, .of h2, ev⟩, fun x H' y => ?_⟩
  obtain ⟨e', y⟩ := y
  subst e'
  have z := y vs (.of h2)
  rw [ev] at z
  cases z
  refine ⟨.refl w, _, ?_, rv⟩
  rw [List.getElem?_reverse lt, ← e, hl]
theorem it_enum {a : Addr} {vs : List V} {ds : List D} (h : H1 a = some (.lst vs)) (n : ¬ M a) (r : Reps K T M H1 vs ds) : ItOk K T M (Ite K a) (enumD ds) H1 := by
  intro M' i H hM w kp
  have h2 := kp a _ n h
  have r2 := r.later hM kp
  have hl : (enumD ds).length = ds.length := by simp [enumD]
  rw [hl]
  refine ⟨fun lt => ?_, fun ge => ⟨vs, .of h2, by rw [r.length]; exact ge⟩⟩
  have e : ds[i]? = some ds[i] := List.getElem?_eq_getElem lt
  obtain ⟨v, ev, rv⟩ := r2.get e
  refine ⟨⟨vs, v, .of h2, ev⟩, fun x H' y => ?_⟩
  obtain ⟨T', x', e1, e2, e3, y⟩ := y
  subst e1 e3
  have z := y vs (.of h2)
  rw [ev] at z
  cases z
  obtain ⟨g, rp⟩ := new_pair w e2 (.int (i : Nat)) rv
  exact ⟨g, _, by simp [enumD, e], rp⟩
theorem zipD_get {xs ys : List D} {i : Nat} {x y : D} (h1 : xs[i]? = some x) (h2 : ys[i]? = some y) : (zipD xs ys)[i]? = some (.tup [x, y]) := by simp [zipD, List.getElem?_zipWith, h1, h2]
theorem it_zip {a b : Addr} {vs us : List V} {ds es : List D} (h : H1 a = some (.lst vs)) (n : ¬ M a) (r : Reps K T M H1 vs ds) (h' : H1 b = some (.lst us)) (n' : ¬ M b) (r' : Reps K T M H1 us es) : ItOk K T M (Itz K a b) (zipD ds es) H1 := by
  intro M' i H hM w kp
  have h2 := kp a _ n h
  have r2 := r.later hM kp
  have h2' := kp b _ n' h'
  have r2' := r'.later hM kp
  have hl : (zipD ds es).length = min ds.length es.length := by simp [zipD]
  rw [hl]
  refine ⟨fun lt => ?_, fun ge => ⟨vs, us, .of h2, .of h2', by rw [r.length, r'.length]; omega⟩⟩
  have e : ds[i]? = some (ds[i]'(by omega)) := List.getElem?_eq_getElem _
  have e' : es[i]? = some (es[i]'(by omega)) := List.getElem?_eq_getElem _
  obtain ⟨v, ev, rv⟩ := r2.get e
  obtain ⟨u, eu, ru⟩ := r2'.get e'
  refine ⟨⟨vs, us, v, u, .of h2, .of h2', ev, eu⟩, fun x H' y => ?_⟩
  obtain ⟨T', x', y', e1, e2, e3, y1, y2⟩ := y
  subst e1 e3
  have z1 := y1 vs (.of h2)
  have z2 := y2 us (.of h2')
  rw [ev] at z1
  rw [eu] at z2
  cases z1
  cases z2
  obtain ⟨g, rp⟩ := new_pair w e2 rv ru
  exact ⟨g, _, zipD_get e e', rp⟩
theorem it_zipT {a b : Addr} {vs us : List V} {ds es : List D} (hs : ∀ H, (∀ a o, ¬ M a → H1 a = some o → H a = some o) → SqT K H a vs) (r : Reps K T M H1 vs ds) (hs' : ∀ H, (∀ a o, ¬ M a → H1 a = some o → H a = some o) → SqT K H b us) (r' : Reps K T M H1 us es) : ItOk K T M (ItzT K a b) (zipD ds es) H1 := by
  intro M' i H hM w kp
  have h2 := hs H kp
  have r2 := r.later hM kp
  have h2' := hs' H kp
  have r2' := r'.later hM kp
  have hl : (zipD ds es).length = min ds.length es.length := by simp [zipD]
  rw [hl]
  refine ⟨fun lt => ?_, fun ge => ⟨vs, us, h2, h2', by rw [r.length, r'.length]; omega⟩⟩
  have e : ds[i]? = some (ds[i]'(by omega)) := List.getElem?_eq_getElem _
  have e' : es[i]? = some (es[i]'(by omega)) := List.getElem?_eq_getElem _
  obtain ⟨v, ev, rv⟩ := r2.get e
  obtain ⟨u, eu, ru⟩ := r2'.get e'
  refine ⟨⟨vs, us, v, u, h2, h2', ev, eu⟩, fun x H' y => ?_⟩
  obtain ⟨T', x', y', e1, e2, e3, y1, y2⟩ := y
  subst e1 e3
  have z1 := y1 vs h2
  have z2 := y2 us h2'
  rw [ev] at z1
  rw [eu] at z2
  cases z1
  cases z2
  obtain ⟨g, rp⟩ := new_pair w e2 rv ru
  exact ⟨g, _, zipD_get e e', rp⟩
end
section
variable {X : Cx}
theorem ppi_down {tg a b c : Expr} {fs : FEs} {p pos : Pos} (hg : Gl X "range") (hm : X.mg "range" = none) (ha : PPA X [a, b, c] fs) (hs : starEach [a, b, c] X.env = (false, eval a X.env) :: starEach [b, c] X.env := by rfl)
    (hpl : (backTo pos (starEach [b, c] X.env)).any (·.1) = false := by rfl) : PPI X tg (.Call (.Name "range" p) [a, b, c] [] pos) (wRngDown fs) :=
  PI.imp (pi_range3 hg hm ha hs hpl) fun σ H R ⟨g, M, env, Qd, s, q, k⟩ => ⟨g, M, env, _, s, q, fun ds vs H1 q1 g1 r1 => by
    split at q1
    · obtain ⟨v, us, e, r, r2⟩ := r1.inv_cons
      obtain ⟨v', us', e', r', r2'⟩ := r2.inv_cons
      obtain ⟨v'', us'', e'', r'', r2''⟩ := r2'.inv_cons
      rw [r2''.inv_nil] at e''
      rw [e', e'', r.b.int, r'.b.int, r''.b.int] at e
      exact ⟨_, _, _, _, e, .neg q1.1.1 q1.1.2.1 q1.1.2.2.1 q1.1.2.2.2, k _ _ _ q1.2 g1 it_down⟩
    · exact q1.elim⟩
theorem ppi_reversed {tg a : Expr} {fs : FEs} {p pos : Pos} (hg : Gl X "reversed") (hm : X.mg "reversed" = none) (ha : PPA X [a] fs) (hs : starEach [a] X.env = [(false, eval a X.env)] := by rfl) : PPI X tg (.Call (.Name "reversed" p) [a] [] pos) (wRev fs) :=
  PI.imp (pi_reversed hg hm ha hs) fun σ H R ⟨g, M, env, Qd, s, q, k⟩ => ⟨g, M, env, _, s, q, fun ds vs H1 q1 g1 r1 => by
    split at q1
    · obtain ⟨v, us, e, r, r2⟩ := r1.inv_cons
      rw [r2.inv_nil] at e
      subst e
      cases r with
      | lst h n rs => exact ⟨_, _, rfl, .of h, k _ _ _ q1 g1 (it_rev h n rs)⟩
    · exact q1.elim⟩
theorem ppi_enum {a : Expr} {fs : FEs} {p pos tpos : Pos} {elts : List Expr} {kk : Nat} (hg : Gl X "enumerate") (hm : X.mg "enumerate" = none) (ha : PPA X [a] fs) (hs : starEach [a] X.env = [(false, eval a X.env)] := by rfl) : PPI X (.Tuple elts kk tpos) (.Call (.Name "enumerate" p) [a] [] pos) (wEnum fs) :=
  PI.imp (pi_enum hg hm ha hs) fun σ H R ⟨g, M, env, Qd, s, q, k⟩ => ⟨g, M, env, _, s, q, fun ds vs H1 q1 g1 r1 => by
    split at q1
    · obtain ⟨v, us, e, r, r2⟩ := r1.inv_cons
      rw [r2.inv_nil] at e
      subst e
      cases r with
      | lst h n rs => exact ⟨_, _, rfl, .of h, k _ _ _ q1 g1 (it_enum h n rs)⟩
    · exact q1.elim⟩
theorem ppi_zip {a b : Expr} {fs : FEs} {p pos tpos : Pos} {elts : List Expr} {kk : Nat} (hg : Gl X "zip") (hm : X.mg "zip" = none) (ha : PPA X [a, b] fs) (hs : starEach [a, b] X.env = (false, eval a X.env) :: starEach [b] X.env := by rfl)
    (hpl : (backTo pos (starEach [b] X.env)).any (·.1) = false := by rfl) : PPI X (.Tuple elts kk tpos) (.Call (.Name "zip" p) [a, b] [] pos) (wZip fs) :=
  PI.imp (pi_zipA hg hm ha hs hpl) fun σ H R ⟨g, M, env, Qd, s, q, k⟩ => ⟨g, M, env, _, s, q, fun ds vs H1 q1 g1 r1 => by
    split at q1
    · obtain ⟨v, us, e, r, r2⟩ := r1.inv_cons
      obtain ⟨v', us', e', r', r2'⟩ := r2.inv_cons
      rw [r2'.inv_nil] at e'
      subst e' e
      cases r with
      | lst h n rs => cases r' with
        | lst h' n' rs' => exact ⟨_, _, _, _, rfl, .inl ⟨.of h, .of h', k _ _ _ q1 g1 (it_zip h n rs h' n' rs')⟩⟩
    · obtain ⟨v, us, e, r, r2⟩ := r1.inv_cons
      obtain ⟨v', us', e', r', r2'⟩ := r2.inv_cons
      rw [r2'.inv_nil] at e'
      subst e' e
      obtain ⟨a1, vs1, e1, hs1, rs1⟩ := r.tupS
      obtain ⟨a2, vs2, e2, hs2, rs2⟩ := r'.tupS
      subst e1 e2
      exact ⟨_, _, _, _, rfl, .inr ⟨hs1 H1 (fun _ _ _ h => h), hs2 H1 (fun _ _ _ h => h), k _ _ _ q1 g1 (it_zipT hs1 rs1 hs2 rs2)⟩⟩
    · exact q1.elim⟩
end
end Pl
end

section
set_option Elab.async false
set_option linter.all false
set_option maxRecDepth 100000
set_option maxHeartbeats 1000000
set_option autoImplicit false
namespace Pl
open PySem PySem.Spec PyProof.Rows L2
/-! classes whose objects do not change behind __init__ -/
theorem putF_new {f : Str} {y : V} : ∀ {ns : List Str} {vs : List V}, ns.contains f = false → ns.length = vs.length → putF f y (ns.zip vs) = (ns ++ [f]).zip (vs ++ [y])
  | [], [], _, _ => rfl
  | [], _ :: _, _, h => nomatch h
  | _ :: _, [], _, h => nomatch h
  | n :: ns, v :: vs, h, hl => by
    simp only [List.contains_cons, Bool.or_eq_false_iff, beq_eq_false_iff_ne, ne_eq] at h
    simp only [List.cons_append, List.zip_cons_cons, putF]
    rw [if_neg (fun z => h.1 z.symm), putF_new h.2 (by simpa using hl)]
theorem lookup_none {f : Str} : ∀ {ns : List Str} {vs : List V}, ns.contains f = false → (ns.zip vs).lookup f = none
  | [], _, _ => rfl
  | _ :: _, [], _ => rfl
  | n :: ns, v :: vs, h => by
    simp only [List.contains_cons, Bool.or_eq_false_iff] at h
    simp only [List.zip_cons_cons, List.lookup, h.1]
    exact lookup_none h.2
section
variable {K : PySem.W.Frag} {T T' : Tp} {M : Addr → Prop} {H : Hp}
mutual
theorem Rep.tp (e : T'.t = T.t) : ∀ (d : D) (v : V), Rep K T M H v d → Rep K T' M H v d
  | .non, _, h => by cases h; exact .non
  | .bl b, _, h => by cases h; exact .bl b
  | .int i, _, h => by cases h; exact .int i
  | .str s, _, h => by cases h; exact .str s
  | .tape, _, h => by cases h; rw [← e]; exact .tape
  | .tup ds, _, h => by
    cases h with
    | tup h1 h2 h3 => exact .tup h1 h2 (Reps.tp e ds _ h3)
    | wtup h1 h3 => exact .wtup h1 (Reps.tp e ds _ h3)
  | .lst ds, _, h => by cases h with | lst h1 h2 h3 => exact .lst h1 h2 (Reps.tp e ds _ h3)
  | .dk ks ds, _, h => by cases h with | dk h1 h2 hl h3 => exact .dk h1 h2 hl (Reps.tp e ds _ h3)
  | .dt ks ds, _, h => by cases h with | dt h1 h2 hl h3 => exact .dt h1 h2 hl (Reps.tp e ds _ h3)
  | .obj c ns ds, _, h => by cases h with | obj h1 hc h2 hl h3 => exact .obj h1 hc h2 hl (Reps.tp e ds _ h3)
theorem Reps.tp (e : T'.t = T.t) : ∀ (ds : List D) (vs : List V), Reps K T M H vs ds → Reps K T' M H vs ds
  | [], _, h => by cases h; exact .nil
  | d :: ds, _, h => by cases h with | cons a b => exact .cons (Rep.tp e d _ a) (Reps.tp e ds _ b)
end
end
section
variable {P : Program} {w : World} {K : PySem.W.Frag} {mg : Str → Option Value} {base : Heap}
/-- a method of the text -/
structure Mth (K : PySem.W.Frag) (c m q : Str) (st : Stmt) : Prop where
  ex : ∃ fd, FunD K m q (defArgs st) (defBody st) (defScope st) [] [] (He.ma K (He.ga K c) m) fd
/-- a class of the text -/
structure Cla (K : PySem.W.Frag) (mg : Str → Option Value) (c : Str) : Prop where
  cls : Cls K (He.ga K c)
  mks : Mk K (He.ga K c) (He.ma K (He.ga K c) "__init__")
  glo : mg c = some (.ref (He.ga K c))
structure KnM (P : Program) (w : World) (K : PySem.W.Frag) (mg : Str → Option Value) (base : Heap) (k : Nat) (c m : Str) (sp : Sp) : Prop where
  ex : ∃ (fd : FuncData) (ps : List Str), FnOk P w K mg base CX0 k (He.ma K (He.ga K c) m) fd ps sp ∧ Meth K (He.ga K c) m (He.ma K (He.ga K c) m) ∧ Cls K (He.ga K c) ∧ Binds K fd ps []
/-- __init__: what it makes of the new object -/
def spI (K : PySem.W.Frag) (c : Str) (φ : Fn) : Sp := fun vs H Q _ => ∃ (T : Tp) (M0 : Addr → Prop) (x dx : Addr) (rest : List V) (ds : List D) (Qd : D → Prop), vs = .ref x :: rest ∧ H x = some (.ins (He.ga K c) dx []) ∧ ¬ M0 x ∧ x ≠ T.t ∧ Wd K T M0 H ∧
  Reps K T (fun a => M0 a ∨ a = x) H rest ds ∧ φ ds Qd ∧ ∀ d H', Qd d → (∀ a o, a ≠ T.t → a ≠ x → H a = some o → H' a = some o) → TapeOk K M0 H' T → Rep K T M0 H' (.ref x) d → Q .non H'
structure KnI (P : Program) (w : World) (K : PySem.W.Frag) (mg : Str → Option Value) (base : Heap) (k : Nat) (c : Str) (φ : Fn) : Prop where
  ex : ∃ (fd : FuncData) (ps : List Str), FnOk P w K mg base CX0 k (He.ma K (He.ga K c) "__init__") fd ps (spI K c φ) ∧ Cla K mg c ∧ Binds K fd ps []
structure DfM (X : Cx) (c m : Str) (φ : Fn) : Prop where
  ex : ∃ (k : Nat) (fd : FuncData) (ps : List Str), FnOk X.prog X.w X.K X.mg X.base CX0 k (He.ma X.K (He.ga X.K c) m) fd ps (spP X.K φ) ∧ Meth X.K (He.ga X.K c) m (He.ma X.K (He.ga X.K c) m) ∧ Cls X.K (He.ga X.K c) ∧ Room k X.A ∧ Binds X.K fd ps []
structure DfI (X : Cx) (c : Str) (φ : Fn) : Prop where
  ex : ∃ (k : Nat) (fd : FuncData) (ps : List Str), FnOk X.prog X.w X.K X.mg X.base CX0 k (He.ma X.K (He.ga X.K c) "__init__") fd ps (spI X.K c φ) ∧ Cla X.K X.mg c ∧ Room (k + 1) X.A ∧ Binds X.K fd ps []
theorem KnM.df {k j : Nat} {c m : Str} {φ : Fn} {X : Cx} (h : KnM X.prog X.w X.K X.mg X.base k c m (spP X.K φ)) (hr : Room j X.A) (hk : k ≤ j) : DfM X c m φ := by
  obtain ⟨fd, ps, F, hm, cl, b⟩ := h.ex
  exact ⟨k, fd, ps, F, hm, cl, hr.mono hk, b⟩
theorem KnI.df {k j : Nat} {c : Str} {φ : Fn} {X : Cx} (h : KnI X.prog X.w X.K X.mg X.base k c φ) (hr : Room j X.A) (hk : k + 1 ≤ j) : DfI X c φ := by
  obtain ⟨fd, ps, F, cl, b⟩ := h.ex
  exact ⟨k, fd, ps, F, cl, hr.mono hk, b⟩
theorem knm_of {c m q : Str} {st : Stmt} {N ps : List Str} {k : Nat} {φ : Fn} {Fb : FS} (F : Mth K c m q st) (hm : Meth K (He.ga K c) m (He.ma K (He.ga K c) m)) (cl : Cls K (He.ga K c)) (S : FnScope N ps (defScope st))
    (hb : ∀ (kV doc pm : Value) (an : Option Addr) (cdv ct : Value) (us : List Value), us.length = ps.length → bindArgs (PySem.W.fnOf m q (defArgs st) (defBody st) (defScope st) .none kV doc pm an cdv ct) ⟨us, []⟩ = pure (ps.zip us))
    (hlen : ∀ ds Q, φ ds Q → ds.length = ps.length)
    (hbody : ∀ (f : Addr) (cdv : Value) (A : Around) (outer : List Env) (s : Shared) (H : Hp) (E : XK), Room k (A.deeper (envOfC q (defScope st) s.heap.objs.size f cdv)) → PPSs (cxN P w K mg base N q (defScope st) f cdv A outer s H E) (defBody st) Fb)
    (hread : ∀ ds Q, φ ds Q → Fb (AEnds.fn Q) (startE N.length ds)) : KnM P w K mg base (k + 1) c m (spP K φ) := by
  obtain ⟨fd, F⟩ := F.ex
  refine ⟨fd, ps, F.ok S ?_ ?_, hm, cl, F.bindsN hb⟩
  · rintro vs H Q E ⟨T, M, ds, Qd, wd, r, q, _⟩
    rw [r.length]
    exact hlen _ _ q
  · rintro cdv A outer s H vs Q E hr ⟨T, M, ds, Qd, wd, r, q, kk⟩
    refine ⟨_, PSs.nox (hbody _ cdv A outer s H E hr), ⟨T, M, H, wd.mT, wd.md⟩, M, _, { nx := fun _ => Qd .non, rt := Qd }, sr_start wd r, hread ds Qd q, ?_⟩
    exact ⟨fun env M' σ H' a b => kk _ _ _ a b.grow0 .non, fun d v H' a b c => kk d v H' a b c, fun _ _ _ _ z => z.elim, fun _ _ _ _ z => z.elim⟩
theorem kni_of {c q : Str} {st : Stmt} {N ps : List Str} {k : Nat} {φ : Fn} {Fb : FS} (F : Mth K c "__init__" q st) (cl : Cla K mg c) (S : FnScope N ps (defScope st))
    (hb : ∀ (kV doc pm : Value) (an : Option Addr) (cdv ct : Value) (us : List Value), us.length = ps.length → bindArgs (PySem.W.fnOf "__init__" q (defArgs st) (defBody st) (defScope st) .none kV doc pm an cdv ct) ⟨us, []⟩ = pure (ps.zip us))
    (hlen : ∀ ds Q, φ ds Q → ds.length + 1 = ps.length) (hN : 0 < N.length)
    (hbody : ∀ (f : Addr) (cdv : Value) (A : Around) (outer : List Env) (s : Shared) (H : Hp) (E : XK), Room k (A.deeper (envOfC q (defScope st) s.heap.objs.size f cdv)) → PPSs (cxN P w K mg base N q (defScope st) f cdv A outer s H E) (defBody st) Fb)
    (hread : ∀ ds Q, φ ds Q → Fb (AEnds.ini Q) (startI N.length c ds)) : KnI P w K mg base (k + 1) c φ := by
  obtain ⟨fd, F⟩ := F.ex
  refine ⟨fd, ps, F.ok S ?_ ?_, cl, F.bindsN hb⟩
  · rintro vs H Q E ⟨T, M0, x, dx, rest, ds, Qd, rfl, hx, nx, xT, wd, r, q, _⟩
    rw [List.length_cons, r.length]
    exact hlen _ _ q
  · rintro cdv A outer s H vs Q E hr ⟨T, M0, x, dx, rest, ds, Qd, rfl, hx, nx, xT, wd, r, q, kk⟩
    obtain ⟨tk, ta, tm, tc, h1, h2, h3, h4⟩ := wd.tape
    have cx : T.c ≠ x := fun z => by rw [z, hx] at h2; cases h2
    have d0 : ∀ a, M0 a → (fun a => if a = x then none else H a) a ≠ none := fun a m => by
      have e : a ≠ x := fun z => nx (z ▸ m)
      show (if a = x then none else H a) ≠ none
      rw [if_neg e]
      exact wd.md a m
    have wd' : Wd K { T with me := x, on := true } (fun a => M0 a ∨ a = x) H := ⟨⟨tk, ta, tm, tc, h1, h2, fun z => z.elim h3 cx, h4⟩, .inl wd.mT, fun a m => m.elim (wd.md a) fun z => by rw [z, hx]; simp⟩
    have r' : Reps K { T with me := x, on := true } (fun a => M0 a ∨ a = x) H rest ds := Reps.tp (T := T) (T' := { T with me := x, on := true }) rfl ds rest r
    have s0 := sr_start (N := N) wd' (Reps.cons Rep.non r')
    refine ⟨_, PSs.nox (hbody _ cdv A outer s H E hr), ⟨{ T with me := x, on := true }, M0, fun a => if a = x then none else H a, wd.mT, d0⟩, fun a => M0 a ∨ a = x, _, AEnds.ini Qd, ?_, hread ds Qd q, ?_⟩
    · refine ⟨wd', fun _ z => .inl z, fun a z => z.elim .inl fun z => .inr (if_pos z), fun a o n e => ?_, ?_, fun i t e => ?_, fun i j l d e ij ei ej _ _ => ?_⟩
      · have e : (if a = x then none else H a) = some o := e
        split at e
        · cases e
        · exact e
      · have := s0.len
        simp only [L2.start, startE, startI, List.length_append, List.length_map, List.length_cons, List.length_replicate] at this ⊢
        omega
      · cases i with
        | zero =>
          have e : some (Slot.own (.obj c [] [])) = some t := e
          cases e
          exact ⟨x, rfl, .inr rfl, xT, if_pos rfl, _, dx, [], hx, rfl, rfl, .nil, fun _ => rfl⟩
        | succ i =>
          have e1 : (startE N.length (D.non :: ds))[i + 1]? = some t := by
            have hl : N.length - 1 - ds.length = N.length - (ds.length + 1) := by omega
            unfold startI at e
            unfold startE
            rw [hl] at e
            exact e
          have q1 := s0.sl (i + 1) t e1
          have e2 : (L2.start N (V.ref x :: rest)).getD (i + 1) none = (L2.start N (V.non :: rest)).getD (i + 1) none := by simp [L2.start]
          rw [e2]
          cases t with
          | non => trivial
          | val d => exact q1
          | own d =>
            exfalso
            unfold startE at e1
            have := List.mem_of_getElem? e1
            rcases List.mem_append.mp this with h | h
            · obtain ⟨_, _, z⟩ := List.mem_map.mp h; cases z
            · have := (List.mem_replicate.mp h).2; cases this
      · have nown : ∀ i d, (startI N.length c ds)[i + 1]? = some (Slot.own d) → False := fun i d e => by
          have e : (ds.map Slot.val ++ List.replicate (N.length - 1 - ds.length) Slot.non)[i]? = some (Slot.own d) := e
          have := List.mem_of_getElem? e
          rcases List.mem_append.mp this with h | h
          · obtain ⟨_, _, z⟩ := List.mem_map.mp h; cases z
          · have := (List.mem_replicate.mp h).2; cases this
        cases i with
        | zero => cases j with
          | zero => exact ij rfl
          | succ j => exact nown j _ ej
        | succ i => exact nown i _ ei
    · refine ⟨fun env M' σ H' a b => ?_, fun _ _ _ z => z.elim, fun _ _ _ _ z => z.elim, fun _ _ _ _ z => z.elim⟩
      obtain ⟨c', ns, us, ed, qd⟩ := a
      obtain ⟨l, el, ml, lT, h0, ow⟩ := b.sl 0 _ ed
      have lx : l = x := by
        obtain ⟨_, _, _, _, _, _, _, z⟩ := ow
        exact z rfl
      subst lx
      refine kk _ _ qd (fun a o n e he => b.gr a o n ?_) (b.wd.tape.mono fun a _ z => b.m0 a z) (Rep.tp (T := { T with me := l, on := true }) (T' := T) rfl _ _ (OwnR.rep (M := M0) (fun a z => b.m0 a z) nx ow))
      show (if a = l then none else H a) = some o
      rw [if_neg e]
      exact he
end
section
variable {X : Cx} {c m f : Str} {φ : Fn} {fo fe : FE} {fs : FEs} {o e value : Expr} {es : List Expr} {p apos pos pos' : Pos} {i : Nat} {x : Str}
/-- C(..) -/
theorem pp_make (F : DfI X c φ) (hg : Gl X c) (ha : PPA X (e :: es) fs)
    (hdb : (c == ("__debug__" : Str)) = false := by decide) (he : starEach (e :: es) X.env = (false, eval e X.env) :: starEach es X.env := by rfl) (hpl : (backTo pos (starEach es X.env)).any (·.1) = false := by rfl) :
    PP X (.Call (.Name c p) (e :: es) [] pos) (wCall φ fs) := by
  obtain ⟨k, fd, ps, F, cl, hr, hb⟩ := F.ex
  refine (pe_make cl.mks F hr hg cl.glo hb .nil pass0 ha hdb he hpl).imp fun σ H Q ⟨g, M, env, Qd, s, q, kk⟩ => ⟨g, M, env, _, s, q, fun ds vs H1 q1 g1 r1 => ?_⟩
  intro x dx hx hdx ne
  have s1 := s.grow g1
  have g2 : Grow X.K g.T M H1 (upd H1 dx (.own x)) := .new s1.wd hdx
  have hx2 : upd H1 dx (.own x) x = none := by rw [upd_ne (Ne.symm ne)]; exact hx
  have g3 : Grow X.K g.T M (upd H1 dx (.own x)) (upd (upd H1 dx (.own x)) x (.ins (He.ga X.K c) dx [])) := .new (s1.wd.grow g2) hx2
  have wd3 := (s1.wd.grow g2).grow g3
  have nx : ¬ M x := s1.wd.fresh hx
  have xT : x ≠ g.T.t := fun z => s1.wd.tape.ne (z ▸ hx)
  refine ⟨g.T, M, x, dx, vs, ds, Qd, by rw [List.append_nil], upd_same, nx, xT, wd3, ?_, q1, fun d H' qd kp tp rp => ⟨rfl, kk d _ H' qd (g1.trans ⟨fun a o n h => kp a o n (fun z => by rw [z, hx] at h; cases h) (g3.keep a o n (g2.keep a o n h)), tp⟩) rp⟩⟩
  exact Reps.keep (fun a h z => z.elim id fun z => absurd hx (z ▸ h)) (fun a o n h => g3.keep a o (fun z => n (z ▸ s1.wd.mT)) (g2.keep a o (fun z => n (z ▸ s1.wd.mT)) h)) ds vs r1
/-- o.m(..) -/
theorem pp_meth {pl : Sem Bool} (ho : PP X o fo) (F : DfM X c m φ) (ha : PPA X (e :: es) fs)
    (hst : starEach (e :: es) X.env = (false, eval e X.env) :: starEach es X.env := by rfl) (hpl : (backTo pos (starEach es X.env)).any (·.1) = false := by rfl)
    (ht : eval (.Call (.Attribute o m apos) (e :: es) [] pos) X.env = (do
      let ov ← eval o X.env
      standAt apos.atName
      let (f, first) ← holding [ov] (getMethod ov m pl)
      callWith pos f first (backTo pos (starEach (e :: es) X.env)) (backToKw pos (keywordEach [] X.env))) := by rfl) :
    PP X (.Call (.Attribute o m apos) (e :: es) [] pos) (wMeth c m φ fo fs) := by
  obtain ⟨k, fd, ps, F, hm, cl, hr, hb⟩ := F.ex
  refine (pe_meth ho cl hm F hr hb .nil pass0 ha hst hpl ht).imp fun σ H Q ⟨g, M, env, Qd, s, q, kk⟩ => ⟨g, M, env, _, s, q, fun d v H1 ⟨q0, q1⟩ g1 r1 => ?_⟩
  cases d with
  | obj c' ns us =>
    obtain ⟨ec, hn⟩ := q0
    subst ec
    have r1' := r1
    cases r1 with
    | @obj a C dx _ _ vs _ h hC n hl rs =>
      subst hC
      have s1 := s.grow g1
      refine ⟨a, dx, _, rfl, h, lookup_none hn, g, M, env, _, s1, q1, fun ds vs2 H2 q2 g2 r2 => ?_⟩
      exact ⟨g.T, M, _, Qd, (s1.grow g2).wd, by rw [List.append_nil]; exact .cons (s1.wd.rep g2 r1') r2, q2, fun d v H' a b c => kk d v H' a ((g1.trans g2).trans b) c⟩
  | _ => exact q0.elim
theorem pp_meth0 {pl : Sem Bool} (ho : PP X o fo) (F : DfM X c m φ)
    (ht : eval (.Call (.Attribute o m apos) [] [] pos) X.env = (do
      let ov ← eval o X.env
      standAt apos.atName
      let (f, first) ← holding [ov] (getMethod ov m pl)
      callWith pos f first (backTo pos (starEach [] X.env)) (backToKw pos (keywordEach [] X.env))) := by rfl) :
    PP X (.Call (.Attribute o m apos) [] [] pos) (wMeth c m φ fo wNil) := by
  obtain ⟨k, fd, ps, F, hm, cl, hr, hb⟩ := F.ex
  refine (pe_meth0 ho cl hm F hr hb .nil pass0 ht).imp fun σ H Q ⟨g, M, env, Qd, s, q, kk⟩ => ⟨g, M, env, _, s, q, fun d v H1 ⟨q0, q1⟩ g1 r1 => ?_⟩
  cases d with
  | obj c' ns us =>
    obtain ⟨ec, hn⟩ := q0
    subst ec
    have r1' := r1
    cases r1 with
    | @obj a C dx _ _ vs _ h hC n hl rs =>
      subst hC
      have s1 := s.grow g1
      refine ⟨a, dx, _, rfl, h, lookup_none hn, ?_⟩
      exact ⟨g.T, M, _, Qd, s1.wd, .cons r1' .nil, q1, fun d v H' a b c => kk d v H' a (g1.trans b) c⟩
  | _ => exact q0.elim
/-- self.f = e -/
theorem pp_setF (i : Nat) (cl : Cls X.K (He.ga X.K c)) (na : NoAttr X.K (He.ga X.K c) f) (hv : PP X value fe) (hN : X.N[i]? = some x := by rfl) (hvs : Vis X.env.scope x := by first | exact Or.inl rfl | exact Or.inr (Or.inl rfl) | exact Or.inr (Or.inr rfl))
    (hd : (x == ("__debug__" : Str)) = false := by decide) (hcd : (x == ("__classdict__" : Str)) = false := by decide)
    (hs : swapsWith value (some (.Attribute (.Name x p) f pos')) pos.line X.env = pure false := by rfl) :
    PPS X (.Assign [.Attribute (.Name x p) f pos'] value pos) (wSetF c i f fe) :=
  (ps_fld (pe_var hN hvs hd hcd) hv hs).imp fun D σ H ⟨g, M, env, A, s, q, kk⟩ => ⟨g, M, env, _, s, q, fun y v H1 ⟨ns, ds, ei, hn, hl, q1⟩ g1 r1 => by
    have s1 := s.grow g1
    obtain ⟨o, eo, l, el, ml, lT, h0, C, dx, us, h, hC, hlen, rs, me⟩ := s1.slot ei
    subst el
    subst hC
    refine ⟨_, eo, l, _, dx, _, rfl, h, cl, na, by simp only [List.length_zip]; omega, ?_⟩
    have hlen2 : (ns ++ [f]).length = (us ++ [v]).length := by simp [hlen]
    have hi : σ[i]? = some (some (.ref l)) := eo
    refine kk.nx _ M _ _ q1 (s1.mut ei hi ⟨_, dx, us ++ [v], ?_, rfl, hlen2, ?_, me⟩)
    · rw [upd_same, putF_new hn hlen]
    · exact ((rs.append (.cons r1 .nil))).updM ml⟩
end
end Pl
namespace Pl
open PySem PySem.Spec PyProof.Rows L2
def kCls (x : Str) : KB := fun K => (He.Fa.cls x).ok K
def kMkr (x : Str) : KB := fun K => (He.Fa.mkr x).ok K
def kMeth (x m : Str) : KB := fun K => (He.Fa.meth x m).ok K
def kNoat (x f : Str) : KB := fun K => (He.Fa.noat x f).ok K
section
variable {K : PySem.W.Frag} {h : Heap} {mg : Str → Option Value} {bs : List KB} {fn : List He.DefD} {x m f q : Str}
theorem cls_of (c : SaysB bs fn K) (j : Nat) (e : bs[j]? = some (kCls x) := by rfl) : Cls K (He.ga K x) := He.cls_ok (c.fact j e)
theorem noat_of (c : SaysB bs fn K) (j : Nat) (e : bs[j]? = some (kNoat x f) := by rfl) : NoAttr K (He.ga K x) f := He.noat_ok (c.fact j e)
theorem meth_of (c : SaysB bs fn K) (j : Nat) (e : bs[j]? = some (kMeth x m) := by rfl) : Meth K (He.ga K x) m (He.ma K (He.ga K x) m) := He.meth_ok (c.fact j e)
theorem mth_of (c : SaysB bs fn K) (i : Nat) {st : Stmt} (e : fn[i]? = some (mOf x m q st) := by rfl) : Mth K x m q st := by
  obtain ⟨fd, F⟩ := c.def_ i e
  exact ⟨fd, F⟩
theorem cla_of (X : K.In h) (G : h.Ns mainGlobals mg) (c : SaysB bs fn K) (i j k : Nat) (e1 : bs[i]? = some (kCls x) := by rfl) (e2 : bs[j]? = some (kMkr x) := by rfl) (e3 : bs[k]? = some (kGlo x) := by rfl) : Cla K mg x :=
  ⟨He.cls_ok (c.fact i e1), He.mkr_ok (c.fact j e2), He.glo_ok X G (c.fact k e3)⟩
end
end Pl
end

section
set_option Elab.async false
set_option linter.all false
set_option maxRecDepth 100000
set_option maxHeartbeats 1000000
set_option autoImplicit false
namespace Pl
open PySem PySem.Spec PyProof.Rows L2
/-! dicts: displays, subscripts; slices of tuples -/
theorem putK_new {k : Key} {v : V} {acc : List (Key × V)} (h : k ∉ acc.map (·.1)) : putK acc k v = acc ++ [(k, v)] := by
  have e : (acc.any fun kv => decide (kv.1 = k)) = false := by
    rw [List.any_eq_false]
    intro x hx z
    exact h (List.mem_map.mpr ⟨x, hx, of_decide_eq_true z⟩)
  unfold putK
  rw [e]
  rfl
theorem mergeK_new : ∀ (ks : List Key) (vs : List V) (acc : List (Key × V)), ks.Nodup → (∀ k ∈ ks, k ∉ acc.map (·.1)) → mergeK acc (ks.zip vs) = acc ++ ks.zip vs
  | [], vs, acc, _, _ => by simp [mergeK]
  | k :: ks, [], acc, _, _ => by simp [mergeK]
  | k :: ks, v :: vs, acc, hn, hd => by
    have e : mergeK acc ((k :: ks).zip (v :: vs)) = mergeK (putK acc k v) (ks.zip vs) := rfl
    rw [e, putK_new (hd k List.mem_cons_self), mergeK_new ks vs _ (List.nodup_cons.mp hn).2 ?_]
    · simp
    · intro j hj z
      rw [List.map_append, List.mem_append] at z
      rcases z with z | z
      · exact hd j (List.mem_cons_of_mem _ hj) z
      · have z : j = k := by simpa using z
        exact (List.nodup_cons.mp hn).1 (z ▸ hj)
theorem kLook_ok {K : PySem.W.Frag} {T : Tp} {M : Addr → Prop} {H : Hp} {k : Key} : ∀ {ks : List Key} {vs : List V} {ds : List D} {d : D}, Reps K T M H vs ds → kLook k ks ds = some d → ∃ v, valV (ks.zip vs) k = some v ∧ Rep K T M H v d
  | [], _, _, _, _, e => by cases e
  | n :: ns, _, [], _, _, e => by cases e
  | n :: ns, _, d :: ds, d', r, e => by
    cases r with
    | @cons v vs _ _ r1 r2 =>
      unfold kLook at e
      by_cases h : n = k
      · rw [if_pos h] at e
        cases e
        exact ⟨v, valV_pos (p := (n, v)) h, r1⟩
      · rw [if_neg h] at e
        obtain ⟨u, lu, ru⟩ := kLook_ok r2 e
        refine ⟨u, ?_, ru⟩
        simp only [valV, List.zip_cons_cons, List.find?_cons] at lu ⊢
        rw [decide_eq_false h]
        exact lu
/-- a display's pairs -/
structure PPD (X : Cx) (pos : Pos) (keys : List (Option Expr)) (values : List Expr) (ks : List Key) (fs : FEs) : Prop where
  ex : ∃ trs, PPs X pos keys values trs ∧ ∀ (g : Gh) (M : Addr → Prop) (env : AEnv) (σ : L2.St) (H : Hp) (Qd : List D → Prop) (R : List (V × V) → Hp → Prop), SR X.K g M σ H env → fs env Qd →
    (∀ ds vs H', Qd ds → Grow X.K g.T M H H' → Reps X.K g.T M H' vs ds → ks.length = vs.length → R ((ks.zip vs).map fun kv => (kV kv.1, kv.2)) H') → tPairs trs σ H R
section
variable {X : Cx} {pos : Pos}
theorem ppd_nil : PPD X pos [] [] [] wNil := ⟨[], L2.pps_nil, fun g M env σ H Qd R s q k => k [] [] H q (.refl s.wd) .nil rfl⟩
theorem ppd_str {x : Str} {j : Nat} {p : Pos} {v : Expr} {keys : List (Option Expr)} {values : List Expr} {ks : List Key} {f : FE} {fs : FEs} (hv : PP X v f) (h : PPD X pos keys values ks fs) :
    PPD X pos (some (.Constant (.str x) j p) :: keys) (v :: values) (.inr x :: ks) (wCons f fs) := by
  obtain ⟨trs, hp, hr⟩ := h.ex
  refine ⟨_ :: trs, L2.pps_cons pe_str hv hp, fun g M env σ H Qd R s q k => ?_⟩
  refine ⟨g, M, env, _, s, q, fun d v1 H1 q1 g1 r1 => ?_⟩
  have s1 := s.grow g1
  refine hr g M env σ H1 _ _ s1 q1 fun ds vs H2 q2 g2 r2 hl => ?_
  exact k (d :: ds) (v1 :: vs) H2 q2 (g1.trans g2) (.cons (s1.wd.rep g2 r1) r2) (by simpa using hl)
theorem pp_dict {keys : List (Option Expr)} {values : List Expr} {ks : List Key} {fs : FEs} (h : PPD X pos keys values ks fs) (hall : keys.all (·.isSome) = true := by rfl) (hl : keys.length = values.length := by rfl) (h0 : keys ≠ [] := by simp)
    (h15 : keys.length ≤ 15 := by decide) (hk : ks.length ≤ 15 := by decide) (hn : ks.Nodup := by decide) : PP X (.Dict keys values pos) (wDict ks fs) := by
  obtain ⟨trs, hp, hr⟩ := h.ex
  refine (pe_disp hp hall hl h0 h15).imp fun σ H Q ⟨g, M, env, Qd, s, q, k⟩ => fun p hp => ?_
  have s1 := s.hide hp (.dK [])
  have pT : p ≠ g.T.t := fun z => by subst z; exact s.wd.tape.ne hp
  refine hr g _ env σ _ _ _ s1 q fun ds vs H' qd g1 r1 hlen => ?_
  have hl2 : (ks.zip vs).length ≤ 15 := by rw [List.length_zip]; omega
  refine ⟨g1.keep p _ pT upd_same, ks.zip vs, rfl, hl2, ?_⟩
  have em : mergeK [] (ks.zip vs) = ks.zip vs := by rw [mergeK_new ks vs [] hn (fun _ _ => by simp)]; rfl
  rw [em]
  refine k _ _ _ qd ⟨fun a o n e => ?_, ?_⟩ (.dk upd_same (s.wd.fresh hp) hlen ?_)
  · have ap : a ≠ p := ne_of_none e hp
    rw [upd_ne ap]
    exact g1.keep a o n (by rw [upd_ne ap]; exact e)
  · obtain ⟨tk, ta, tm, tc, h1, h2, h3, h4⟩ := g1.tape
    exact ⟨tk, ta, tm, tc, by rw [upd_ne (Ne.symm pT)]; exact h1, by rw [upd_ne (fun z => h3 (.inr z))]; exact h2, fun z => h3 (.inl z), h4⟩
  · exact Reps.keep (fun a _ z => .inl z) (fun a o n h => by rw [upd_ne (fun z => n (.inr z))]; exact h) ds vs r1
theorem pp_dget {o i : Expr} {fo fi : FE} (hu : X.A.units + 1 < cLine) (ho : PP X o fo) (hi : PP X i fi) (hs : NoSl i := by intro _ _; rfl) : PP X (.Subscript o i pos) (wBin dGet fo fi) :=
  (pe_dget hu ho hi hs).imp fun σ H Q ⟨g, M, env, Qd, s, q, k⟩ => ⟨g, M, env, _, s, q, fun d v H1 q1 g1 r1 => by
    have s1 := s.grow g1
    refine ⟨g, M, env, _, s1, q1, fun d2 v2 H2 q2 g2 r2 => ?_⟩
    unfold dGet at q2
    split at q2
    · obtain ⟨kk, d3, e1, e2, q3⟩ := q2
      have r1' := s1.wd.rep g2 r1
      cases r1' with
      | @dk a _ vs _ h n hl rs =>
        obtain ⟨u, lu, ru⟩ := kLook_ok rs e2
        have ev : v2 = kV kk := by
          cases d2 with
          | int i => cases e1; exact r2.b.int
          | str x => cases e1; exact r2.b.str
          | _ => cases e1
        exact ⟨a, u, rfl, .inl ⟨_, kk, .inl h, ev, lu.symm⟩, k _ _ _ q3 (g1.trans g2) ru⟩
    · exact q2.elim⟩
end
section
variable {X : Cx} {pos : Pos}
theorem pp_sliceT {e : Expr} {lo hi : Option Expr} {f : FE} {fl fh : FO} {p2 : Pos} (he : PB X e f) (hl : PPO X lo fl) (hh : PPO X hi fh) :
    PP X (.Subscript e (.Slice lo hi none p2) pos) (wSliceT f fl fh) :=
  PE.imp (pe_slice (sl_list.or sl_tupA) he hl hh) fun σ H Q ⟨g, M, env, Qd, s, q, k⟩ => ⟨g, M, env, _, s, q, fun d v H1 q1 g1 r1 => by
    have s1 := s.grow g1
    refine ⟨g, M, env, _, s1, q1, fun o H2 q2 g2 => ?_⟩
    have s2 := s1.grow g2
    refine ⟨g, M, env, _, s2, q2, fun o' H3 q3 g3 => ?_⟩
    have s3 := s2.grow g3
    have r3 := s2.wd.brep g3 (s1.wd.brep g2 r1)
    split at q3
    · obtain ⟨a, vs, e1, h, rs⟩ := r3.lst
      refine .inl ⟨a, vs, e1, .of h, fun p hp => ?_⟩
      have g4 : Grow X.K g.T M H3 (upd H3 p (.lst (cutV vs o o'))) := .new s3.wd hp
      exact k _ _ _ q3 (((g1.trans g2).trans g3).trans g4) (.lst upd_same (s3.wd.fresh hp) (s3.wd.reps g4 (rs.cut _ _)))
    · rename_i xs
      have r3' : Rep X.K g.T M H3 v (.tup xs) := r3.elim id fun ⟨_, _, _, _, z⟩ => z.elim
      obtain ⟨a, vs, e1, h, rs⟩ := r3.tup
      refine .inr ⟨a, vs, e1, h, fun ⟨z1, z2⟩ => ?_, fun _ p hp => ?_⟩
      · have e : cutD xs o o' = xs := by
          unfold cutD
          rw [sIxD_eq, sIxD_eq, ← rs.length, z1, z2, rs.length]
          simp
        rw [e] at q3
        exact k _ _ _ q3 ((g1.trans g2).trans g3) (e1 ▸ r3')
      · have g4 : Grow X.K g.T M H3 (upd H3 p (.tup (cutV vs o o'))) := .new s3.wd hp
        exact k _ _ _ q3 (((g1.trans g2).trans g3).trans g4) (.tup upd_same (s3.wd.fresh hp) (s3.wd.reps g4 (rs.cut _ _)))
    · exact q3.elim⟩
end
end Pl
end

section
set_option Elab.async false
set_option linter.all false
set_option maxRecDepth 100000
set_option maxHeartbeats 1000000
set_option autoImplicit false
namespace Pl
open PySem PySem.Spec PyProof.Rows L2
/-! list(zip(a, b)) of two lists -/
theorem zip_no_len : typeLookup (.type "zip") "__len__" = pure none := by rw [typeLookup_type, builtinLookup_eq_fast]; kernel_rfl
theorem zip_no_hint : typeLookup (.type "zip") "__length_hint__" = pure none := by rw [typeLookup_type, builtinLookup_eq_fast]; kernel_rfl
/-- the zip object behind k items -/
def ZipSt (h : Heap) (z TI TO i1 i2 a b : Addr) (k : Nat) : Prop :=
  IsPair h TI (.ref i1) (.ref i2) ∧ h.IsListIter i1 a k ∧ h.IsListIter i2 b k ∧ ((IsZip h z TI TO .none ∧ ∃ x y, IsPair h TO x y) ∨ ∃ T f oT, IsZipHeld h z TI TO T f ∧ h.get? T = some oT ∧ ∃ oO, h.get? TO = some oO)
theorem ZipSt.to {h : Heap} {z TI TO i1 i2 a b : Addr} {k : Nat} (q : ZipSt h z TI TO i1 i2 a b k) : ∃ o, h.get? TO = some o := by
  obtain ⟨_, _, _, ⟨_, _, _, e⟩ | ⟨_, _, _, _, _, o, e⟩⟩ := q <;> exact ⟨_, e⟩
theorem ZipSt.ty {h : Heap} {z TI TO i1 i2 a b : Addr} {k : Nat} (q : ZipSt h z TI TO i1 i2 a b k) : ∃ o, h.get? z = some o ∧ o.cls = .type "zip" := by
  obtain ⟨_, _, _, ⟨e, _⟩ | ⟨_, _, _, e, _⟩⟩ := q <;> exact ⟨_, e, rfl⟩
theorem ZipSt.keep {h h' : Heap} {z TI TO i1 i2 a b S : Addr} {k : Nat} (q : ZipSt h z TI TO i1 i2 a b k) (kp : ∀ c o, c ≠ S → h.get? c = some o → h'.get? c = some o) (h0 : z ≠ S) (h1 : TI ≠ S) (h2 : TO ≠ S) (h3 : i1 ≠ S) (h4 : i2 ≠ S) (hS : ∃ o, h'.get? S = some o) : ZipSt h' z TI TO i1 i2 a b k := by
  obtain ⟨q1, q2, q3, q4⟩ := q
  refine ⟨kp _ _ h1 q1, q2.at fun o e => kp _ o h3 e, q3.at fun o e => kp _ o h4 e, ?_⟩
  rcases q4 with ⟨e, x, y, e2⟩ | ⟨T, f, oT, e, e2, oO, e3⟩
  · exact .inl ⟨kp _ _ h0 e, x, y, kp _ _ h2 e2⟩
  · by_cases c : T = S
    · obtain ⟨o, ho⟩ := hS
      exact .inr ⟨T, f, o, kp _ _ h0 e, c ▸ ho, oO, kp _ _ h2 e3⟩
    · exact .inr ⟨T, f, oT, kp _ _ h0 e, kp _ _ c e2, oO, kp _ _ h2 e3⟩
/-- pyNext of the zip, an item -/
theorem zip_next {prog : Program} {w : World} {A : Around} {E : Value → Shared → Prop} {s : Shared} {z TI TO i1 i2 a b : Addr} {k : Nat} {xs ys : Array Value} {x y : Value} {Q : Option Value → Shared → Prop} (D : ZipApart z TI TO i1 i2 a b) (st : ZipSt s.heap z TI TO i1 i2 a b k)
    (hl1 : s.heap.IsList a xs) (hl2 : s.heap.IsList b ys) (hx : xs[k]? = some x) (hy : ys[k]? = some y)
    (hQ : ∀ h', ZipSt h' z TI TO i1 i2 a b (k + 1) → IsPair h' s.heap.objs.size x y → (∀ c o, c ∉ [z, TO, i1, i2] → s.heap.get? c = some o → h'.get? c = some o) → Q (some (.ref s.heap.objs.size)) { s with heap := h' }) :
    wpAny (model prog w) A (pyNext (.ref z)) Q E s := by
  obtain ⟨q1, q2, q3, ⟨e, x0, y0, e2⟩ | ⟨T, f, oT, e, e2, oO, e9⟩⟩ := st
  · refine wpAny_pyNext_zip_item D e q1 e2 q2 q3 hl1 hl2 hx hy fun h' a1 a2 a3 a4 a5 a6 a7 => ?_
    refine hQ h' ⟨a7 _ _ D.TIz D.TITO D.TIi1 D.TIi2 q1, a3, a4, .inr ⟨_, false, _, a1, a5, _, a2⟩⟩ a5 fun c o hc hg => ?_
    simp only [List.mem_cons, List.not_mem_nil, or_false, not_or] at hc
    exact a7 c o hc.1 hc.2.1 hc.2.2.1 hc.2.2.2 hg
  · refine wpAny_pyNext_zip_item_held D e e2 q1 q2 q3 hl1 hl2 hx hy fun h' a1 a3 a4 a5 a6 a7 => ?_
    have hT : T ≠ z ∨ T = z := by
      by_cases c : T = z
      · exact .inr c
      · exact .inl c
    have oT' : ∃ o, h'.get? T = some o := by
      by_cases c1 : T = z
      · exact ⟨_, by rw [c1]; exact a1⟩
      · by_cases c2 : T = i1
        · obtain ⟨o, ho, _⟩ := a3; exact ⟨o, c2 ▸ ho⟩
        · by_cases c3 : T = i2
          · obtain ⟨o, ho, _⟩ := a4; exact ⟨o, c3 ▸ ho⟩
          · exact ⟨oT, a7 _ _ c1 c2 c3 e2⟩
    obtain ⟨o', ho'⟩ := oT'
    refine hQ h' ⟨a7 _ _ D.TIz D.TIi1 D.TIi2 q1, a3, a4, .inr ⟨T, true, o', a1, ho', oO, a7 _ _ D.TOz D.TOi1 D.TOi2 e9⟩⟩ a5 fun c o hc hg => ?_
    simp only [List.mem_cons, List.not_mem_nil, or_false, not_or] at hc
    exact a7 c o hc.1 hc.2.2.1 hc.2.2.2 hg
theorem zip_stop {prog : Program} {w : World} {A : Around} {E : Value → Shared → Prop} {s : Shared} {z TI TO i1 i2 a b : Addr} {k : Nat} {xs ys : Array Value} {Q : Option Value → Shared → Prop} (hh : A.handled = none) (D : ZipApart z TI TO i1 i2 a b) (st : ZipSt s.heap z TI TO i1 i2 a b k)
    (hl1 : s.heap.IsList a xs) (hl2 : s.heap.IsList b ys) (he : xs[k]? = none ∨ ys[k]? = none)
    (hQ : ∀ h', (∀ c o, c ∉ [z, TO, i1, i2] → s.heap.get? c = some o → h'.get? c = some o) → Q none { s with heap := h' }) :
    wpAny (model prog w) A (pyNext (.ref z)) Q E s := by
  obtain ⟨q1, q2, q3, ⟨e, x0, y0, e2⟩ | ⟨T, f, oT, e, e2, oO, e9⟩⟩ := st
  · refine wpAny_pyNext_zip_end hh D e q1 e2 q2 q3 hl1 hl2 he fun h' a7 => hQ h' fun c o hc hg => ?_
    simp only [List.mem_cons, List.not_mem_nil, or_false, not_or] at hc
    exact a7 c o hc.1 hc.2.1 hc.2.2.1 hc.2.2.2 hg
  · refine wpAny_pyNext_zip_end_held hh D e e2 q1 q2 q3 hl1 hl2 he fun h' a7 => hQ h' fun c o hc hg => ?_
    simp only [List.mem_cons, List.not_mem_nil, or_false, not_or] at hc
    exact a7 c o hc.1 hc.2.2.1 hc.2.2.2 hg
/-- the pairs so far -/
def Pairs (H0 H : Hp) (xs ys items : List V) : Prop := ∀ (j : Nat), j < items.length → ∃ T x y, items[j]? = some (.ref T) ∧ xs[j]? = some x ∧ ys[j]? = some y ∧ H T = some (.tup [x, y]) ∧ H0 T = none
theorem zip_drain {X : Cx} {pins : List (Addr × Obj)} {σ : L2.St} {S z TI TO i1 i2 a b : Addr} {B : Around} {res : Value} {R : Result → Shared → Prop} {xs ys : List V} {H0 : Hp} (hh : B.handled = none) (D : ZipApart z TI TO i1 i2 a b)
    (hSz : S ∉ [z, TI, TO, i1, i2, a, b]) (hxs : xs.length ≤ sizeLine)
    (hend : ∀ (s' : Shared) (H' : Hp) (items : List V), Inv X pins σ H' s' → H' S = some (.lst items) → items.length = min xs.length ys.length → Pairs H0 H' xs ys items → (∀ c o, c ≠ S → H0 c = some o → H' c = some o) → R (.ok (.ret res)) s') :
    ∀ (n : Nat) (items : List V) (s : Shared) (H : Hp), min xs.length ys.length = items.length + n → Inv X pins σ H s → H S = some (.lst items) → H a = some (.lst xs) → H b = some (.lst ys) → ZipSt s.heap z TI TO i1 i2 a b items.length →
      (∀ c ∈ [z, TI, TO, i1, i2], FpOk X pins H c) → Pairs H0 H xs ys items → (∀ c o, c ≠ S → H0 c = some o → H c = some o) → codeAny (model X.prog X.w) B (.builtin "list.extend.loop" ⟨[.ref S, .ref z, res], []⟩) R s := by
  intro n
  induction n with
  | zero =>
    intro items s H hn I hS hqx hqy st hf pr kp
    obtain ⟨its, rv, p, _⟩ := I.list (.of hqx)
    obtain ⟨its2, rv2, p2, _⟩ := I.list (.of hqy)
    have l1 := rv.length
    have l2 := rv2.length
    refine codeAny_builtin F.entry_extend_loop ?_
    rw [Around.under_plainId F.plain_extend_loop _]
    show wpAny _ B.in1 (pyNext (.ref z) >>= _) _ _ s
    have he : its.toArray[items.length]? = none ∨ its2.toArray[items.length]? = none := by
      rcases (by omega : xs.length ≤ items.length ∨ ys.length ≤ items.length) with q | q
      · exact .inl (by simp; omega)
      · exact .inr (by simp; omega)
    refine wpAny_bind (zip_stop (A := B.in1) hh D st p.isList p2.isList he fun h' hk => ?_)
    refine wpAny_pure ?_
    have I2 : Inv X pins σ H { s with heap := h' } := I.turnedL (t' := s.toks) (ch := [z, TO, i1, i2]) hk fun c hc => hf c (by simp only [List.mem_cons, List.not_mem_nil, or_false] at hc ⊢; rcases hc with q | q | q | q <;> simp [q])
    exact hend _ H items I2 hS (by omega) pr kp
  | succ n ih =>
    intro items s H hn I hS hqx hqy st hf pr kp
    obtain ⟨its, rv, p, _⟩ := I.list (.of hqx)
    obtain ⟨its2, rv2, p2, _⟩ := I.list (.of hqy)
    obtain ⟨x, hx⟩ : ∃ x, xs[items.length]? = some x := ⟨_, List.getElem?_eq_getElem (by omega)⟩
    obtain ⟨y, hy⟩ : ∃ y, ys[items.length]? = some y := ⟨_, List.getElem?_eq_getElem (by omega)⟩
    obtain ⟨u, hu, ru⟩ := rv.get hx
    obtain ⟨u2, hu2, ru2⟩ := rv2.get hy
    refine codeAny_builtin F.entry_extend_loop ?_
    rw [Around.under_plainId F.plain_extend_loop _]
    show wpAny _ B.in1 (pyNext (.ref z) >>= _) _ _ s
    refine wpAny_bind (zip_next (A := B.in1) D st p.isList p2.isList (x := u) (y := u2) (by simpa using hu) (by simpa using hu2) fun h' st' hT hk => ?_)
    have hfc : ∀ c ∈ [z, TO, i1, i2], FpOk X pins H c := fun c hc => hf c (by simp only [List.mem_cons, List.not_mem_nil, or_false] at hc ⊢; rcases hc with q | q | q | q <;> simp [q])
    have new : ObjOk X.prog X.w (upd H s.heap.objs.size (.tup [x, y])) h' s.heap.objs.size (.tup [x, y]) :=
      ⟨by show 2 ≤ sizeLine; decide, [u, u2], .cons ru (.cons ru2 .nil), ⟨_, hT, rfl, _, rfl⟩⟩
    have I1 : Inv X pins σ (upd H s.heap.objs.size (.tup [x, y])) { s with heap := h' } := I.turnedNew (t' := s.toks) (ch := [z, TO, i1, i2]) hk hfc (Nat.le_refl _) new
    have hTn : H s.heap.objs.size = none := I.hok.fresh (Nat.le_refl _)
    have hS1 : (upd H s.heap.objs.size (.tup [x, y])) S = some (.lst items) := by rw [upd_ne (ne_of_none hS hTn)]; exact hS
    obtain ⟨zl, li, nn, rl, hl, e⟩ := I1.lstM hS1
    show wpAny _ B.in1 (updateSeq S (·.push (.ref s.heap.objs.size)) >>= _) _ _ _
    have hll : items.length < sizeLine := by omega
    refine wpAny_bind (wpAny_updateSeq e rfl (wpAny_pure ⟨plainId_quiet F.plain_extend_loop _, ?_⟩) (by rw [List.size_toArray]; omega) (by show (li.toArray.push _).size ≤ sizeLine + 1; rw [Array.size_push, List.size_toArray]; omega))
    have rv' : Vals (items ++ [V.ref s.heap.objs.size]) (li ++ [Value.ref s.heap.objs.size]) := rl.append (.cons rfl .nil)
    have I2 := I1.lset (its' := li ++ [Value.ref s.heap.objs.size]) (f := (·.push (.ref s.heap.objs.size))) (t' := s.toks) hS1 e (by simp) rv' (by rw [List.length_append, List.length_singleton]; omega)
    have nSz : ∀ c, c ∈ [z, TI, TO, i1, i2, a, b] → c ≠ S := fun c hc q => hSz (q ▸ hc)
    have tS : s.heap.objs.size ≠ S := fun q => by rw [← q, hTn] at hS; cases hS
    have kk : ∀ c o, c ≠ S → H c = some o → upd (upd H s.heap.objs.size (.tup [x, y])) S (.lst (items ++ [.ref s.heap.objs.size])) c = some o := fun c o n q => by rw [upd_ne n, upd_ne (ne_of_none q hTn)]; exact q
    refine ih (items ++ [.ref s.heap.objs.size]) _ _ ?_ I2 upd_same ?_ ?_ ?_ ?_ ?_ ?_
    · rw [List.length_append, List.length_singleton]; omega
    · exact kk _ _ (nSz _ (by simp)) hqx
    · exact kk _ _ (nSz _ (by simp)) hqy
    · rw [List.length_append, List.length_singleton]
      exact st'.keep (S := S) (fun c o n q => (Heap.get?_update_other _ _ (Ne.symm n)).trans q) (nSz _ (by simp)) (nSz _ (by simp)) (nSz _ (by simp)) (nSz _ (by simp)) (nSz _ (by simp)) ⟨_, Heap.get?_update_self _ e rfl⟩
    · intro c hc
      obtain ⟨f0, fr⟩ := hf c hc
      have cl : c ≠ s.heap.objs.size := by
        obtain ⟨oz, hoz, _⟩ := st.ty
        obtain ⟨oO, hoO⟩ := st.to
        obtain ⟨q1, ⟨o1, e1, _⟩, ⟨o2, e2, _⟩, q4⟩ := st
        simp only [List.mem_cons, List.not_mem_nil, or_false] at hc
        rcases hc with q | q | q | q | q
        · rw [q]; exact Nat.ne_of_lt (Heap.lt_size hoz)
        · rw [q]; exact Nat.ne_of_lt (Heap.lt_size q1)
        · rw [q]; exact Nat.ne_of_lt (Heap.lt_size hoO)
        · rw [q]; exact Nat.ne_of_lt (Heap.lt_size e1)
        · rw [q]; exact Nat.ne_of_lt (Heap.lt_size e2)
      refine ⟨?_, fr⟩
      rw [upd_ne (nSz c (by simp only [List.mem_cons, List.not_mem_nil, or_false] at hc ⊢; rcases hc with q | q | q | q | q <;> simp [q])), upd_ne cl]
      exact f0
    · intro j hj
      rw [List.length_append, List.length_singleton] at hj
      rcases (by omega : j < items.length ∨ j = items.length) with q | q
      · obtain ⟨T, x', y', e1, e2, e3, e4, e5⟩ := pr j q
        refine ⟨T, x', y', by rw [List.getElem?_append_left q]; exact e1, e2, e3, kk _ _ (fun z => by rw [z, hS] at e4; cases e4) e4, e5⟩
      · subst q
        refine ⟨s.heap.objs.size, x, y, by simp, hx, hy, by rw [upd_ne tS, upd_same], ?_⟩
        cases q0 : H0 s.heap.objs.size with
        | none => rfl
        | some o => rw [kp _ o tS q0] at hTn; cases hTn
    · exact fun c o n q => kk c o n (kp c o n q)
theorem reps_of {K : PySem.W.Frag} {T : Tp} {M : Addr → Prop} {H : Hp} : ∀ {vs : List V} {ds : List D}, vs.length = ds.length → (∀ j, j < vs.length → ∃ v d, vs[j]? = some v ∧ ds[j]? = some d ∧ Rep K T M H v d) → Reps K T M H vs ds
  | [], [], _, _ => .nil
  | [], _ :: _, h, _ => nomatch h
  | _ :: _, [], h, _ => nomatch h
  | v :: vs, d :: ds, h, q => by
    obtain ⟨v', d', e1, e2, r⟩ := q 0 (by simp)
    cases e1
    cases e2
    exact .cons r (reps_of (by simpa using h) fun j hj => by
      obtain ⟨v', d', e1, e2, r⟩ := q (j + 1) (by simpa using hj)
      exact ⟨v', d', by simpa using e1, by simpa using e2, r⟩)
/-- list(zip(a, b)) -/
def tListZip (ta : TA) : TE := fun σ H Q => ta σ H fun vs H1 => ∃ (a b : Addr) (xs ys : List V), vs = [.ref a, .ref b] ∧ H1 a = some (.lst xs) ∧ H1 b = some (.lst ys) ∧
  ∀ (p : Addr) (items : List V) (H2 : Hp), H1 p = none → H2 p = some (.lst items) → items.length = min xs.length ys.length → Pairs H1 H2 xs ys items → (∀ c o, H1 c = some o → H2 c = some o) → Q (.ref p) H2
section
variable {X : Cx}
theorem pe_listZip {e e2 : Expr} {ta : TA} {p p2 pos pos2 : Pos} (hc : X.calm = true) (hg : Gl X "list") (hm : X.mg "list" = none) (hg2 : Gl X "zip") (hm2 : X.mg "zip" = none) (ha : PA X [e, e2] ta)
    (hs : starEach [e, e2] X.env = (false, eval e X.env) :: starEach [e2] X.env := by rfl) (hpl : (backTo pos2 (starEach [e2] X.env)).any (·.1) = false := by rfl)
    (hs2 : starEach [.Call (.Name "zip" p2) [e, e2] [] pos2] X.env = (false, eval (.Call (.Name "zip" p2) [e, e2] [] pos2) X.env) :: starEach [] X.env := by rfl) :
    PE X (.Call (.Name "list" p) [.Call (.Name "zip" p2) [e, e2] [] pos2] [] pos) (tListZip ta) := by
  refine ⟨fun pins s σ H Q I h => ?_⟩
  refine Call_ (ld_blt I hg hm boot_list (PyProof.Rows.callWith_type1 (args_cons (Call_ (ld_blt I hg2 hm2 PyProof.Rows.boot_zip (PyProof.Rows.callWith_type1 (thn (ha.run pos2 pins s σ H _ I h) fun us s1 ⟨vs, H1, I1, r1, q1⟩ => ?_) hs hpl))) hs2) hs2 rfl))
  obtain ⟨a, b, xs, ys, ex, hqx, hqy, q⟩ := q1
  subst ex
  cases r1 with
  | cons r rr =>
    cases rr with
    | cons r' rr =>
      cases rr
      cases r
      cases r'
      obtain ⟨its, rv, p1, hzx⟩ := I1.list (.of hqx)
      obtain ⟨its2, rv2, p3, _⟩ := I1.list (.of hqy)
      refine call_zip_2 p1.isList p3.isList fun h' hz hTI hTO h1 h2 hsz hk => args_nil ?_
      have D := PySem.W.ktu_apart s1.heap.objs.size a b p1.lt p3.lt
      have I2 : Inv X pins σ H1 { s1 with heap := h' } := I1.kept (t' := s1.toks) hk
      have I3 := I2.lnew (ys := []) (its := []) (t' := s1.toks) .nil (Nat.zero_le _)
      have hSn : H1 h'.objs.size = none := I2.hok.fresh (Nat.le_refl _)
      refine callType_codes (Q₁ := fun obj s₁ => obj = .ref h'.objs.size ∧ s₁ = { s1 with heap := h'.push { cls := .type "list", data := .seq #[] } }) F.called_list (F.typeCall_list_1 _) F.entry_list_init
        (code_list_new _ ⟨rfl, rfl⟩) fun obj s₁ hh₁ => ?_
      obtain ⟨rfl, rfl⟩ := hh₁
      have hS : (h'.push { cls := .type "list", data := .seq #[] }).get? h'.objs.size = some { cls := .type "list", data := .seq #[] } := Heap.get?_push_size _ rfl
      refine ⟨⟨_, hS, rfl⟩, F.args_list_init_2 _ _, ?_⟩
      have k1 : ∀ b o, h'.get? b = some o → (h'.push { cls := .type "list", data := .seq #[] }).get? b = some o := fun b o e => Heap.get?_push_of_some _ e
      have up : ∀ (hh : Heap) (f : Obj → Obj), (∀ b o, h'.get? b = some o → hh.get? b = some o) → ∀ b o, h'.get? b = some o → (hh.update h'.objs.size f).get? b = some o := fun hh f q b o e =>
        (Heap.get?_update_other _ _ (Ne.symm (Nat.ne_of_lt (Heap.lt_size e)))).trans (q b o e)
      have k2 := up _ (Obj.mapSeq (fun _ => (#[] : Array Value))) k1
      have hSa : h'.objs.size ≠ s1.heap.objs.size + 4 := by omega
      show wpAny _ X.A.in1.in1 (do let old ← Builtin.List.listItems (.ref h'.objs.size); Builtin.List.listUpdate (.ref h'.objs.size) (fun _ => #[]); letGo old.toList.reverse; Builtin.List.listExtendWith (.ref h'.objs.size) (.ref (s1.heap.objs.size + 4)) .none) _ _ _
      refine wpAny_bind ?_
      unfold Builtin.List.listItems
      refine wpAny_bind (wpAny_seqItems hS rfl (wpAny_pure ?_))
      show wpAny _ X.A.in1.in1 (updateSeq h'.objs.size (fun _ => #[]) >>= fun _ => letGo (#[] : Array Value).toList.reverse >>= fun _ => Builtin.List.listExtendWith (.ref h'.objs.size) (.ref (s1.heap.objs.size + 4)) .none) _ _ _
      refine wpAny_bind (wpAny_updateSeq hS rfl ?_)
      have hS2 := Heap.get?_update_self (Obj.mapSeq (fun _ => (#[] : Array Value))) hS rfl
      refine wpAny_bind (wpAny_letGo ?_)
      unfold Builtin.List.listExtendWith
      have hzz : ∀ {hh : Heap}, (∀ b o, h'.get? b = some o → hh.get? b = some o) → IsZip hh (s1.heap.objs.size + 4) (s1.heap.objs.size + 2) (s1.heap.objs.size + 3) .none := fun {hh} q => q _ _ hz
      refine wpAny_bind (wpAny_typeOf (s := { s1 with heap := _ }) ⟨_, hzz k2, rfl⟩ ?_)
      have b1 : Builtin.List.listSameRef (.ref h'.objs.size) (.ref (s1.heap.objs.size + 4)) = false := by simp [Builtin.List.listSameRef, hSa]
      have b2 : (Value.type "zip" == Value.type "list") = false := by decide
      have b3 : (Value.type "zip" == Value.type "tuple") = false := by decide
      simp only [b1, b2, b3, Bool.or_false, Bool.false_eq_true, if_false]
      refine wpAny_bind (wpAny_pyIter_zip (s := { s1 with heap := _ }) (hzz k2) ?_)
      refine wpAny_bind (wpAny_holding ?_)
      unfold Builtin.List.listLengthHint
      refine wpAny_bind (wpAny_specialOf (s := { s1 with heap := _ }) ⟨_, hzz k2, rfl⟩ zip_no_len ?_)
      show wpAny _ X.A.in1.in1 (specialOf (Value.ref (s1.heap.objs.size + 4)) (Str.ofString "__length_hint__") >>= _) _ _ _
      refine wpAny_bind (wpAny_specialOf (s := { s1 with heap := _ }) ⟨_, hzz k2, rfl⟩ zip_no_hint ?_)
      refine wpAny_pure ?_
      show wpAny _ X.A.in1.in1 (rule "list.extend.makes-room" >>= fun _ => Builtin.List.listTouch (.ref h'.objs.size) >>= fun _ =>
        again (.builtin "list.extend.loop" ⟨[.ref h'.objs.size, .ref (s1.heap.objs.size + 4), .none], []⟩)) _ _ _
      refine wpAny_bind (wpAny_rule ?_)
      refine wpAny_bind ?_
      show wpAny _ X.A.in1.in1 (updateSeq h'.objs.size (·.push .none) >>= fun _ => updateSeq h'.objs.size (·.pop)) _ _ _
      refine wpAny_bind (wpAny_updateSeq hS2 rfl ?_)
      have hS3 := Heap.get?_update_self (Obj.mapSeq (·.push Value.none)) hS2 rfl
      refine wpAny_updateSeq (hz := by seq_fits) hS3 rfl ?_
      have hS4 := Heap.get?_update_self (Obj.mapSeq (·.pop)) hS3 rfl
      have k4 := up _ (Obj.mapSeq (·.pop)) (up _ (Obj.mapSeq (·.push Value.none)) k2)
      refine wpAny_pure ⟨plainId_quiet F.plain_extend_loop _, ?_⟩
      have ku : ∀ (hh : Heap) (f : Obj → Obj) (b : Addr) (o : Obj), b ≠ h'.objs.size → hh.get? b = some o → (hh.update h'.objs.size f).get? b = some o := fun hh f b o n e => (Heap.get?_update_other _ _ (Ne.symm n)).trans e
      have I4 : Inv X pins σ (upd (upd H1 h'.objs.size (.lst [])) h'.objs.size (.lst [])) { s1 with heap := (((h'.push { cls := .type "list", data := .seq #[] }).update h'.objs.size (Obj.mapSeq fun _ => #[])).update h'.objs.size (Obj.mapSeq (·.push Value.none))).update h'.objs.size (Obj.mapSeq (·.pop)) } :=
        I3.write (x := h'.objs.size) (e := h'.objs.size) (t' := s1.toks) (by rw [upd_same]; exact trivial) (.inl rfl) (fun b u n e => ku _ _ _ _ n (ku _ _ _ _ n (ku _ _ _ _ n e))) ⟨_, hS4⟩ ⟨Nat.zero_le _, [], _, .nil, hS4⟩
      have nS : ∀ c, H1 c ≠ none → c ≠ h'.objs.size := fun c n z => n (z ▸ hSn)
      have kH : ∀ c o, H1 c = some o → upd (upd H1 h'.objs.size (.lst [])) h'.objs.size (.lst []) c = some o := fun c o e => by
        have n := nS c (by rw [e]; simp)
        rw [upd_ne n, upd_ne n]; exact e
      have fresh5 : ∀ c, c ∈ [s1.heap.objs.size + 4, s1.heap.objs.size + 2, s1.heap.objs.size + 3, s1.heap.objs.size, s1.heap.objs.size + 1] → FpOk X pins (upd (upd H1 h'.objs.size (.lst [])) h'.objs.size (.lst [])) c := fun c hcm => by
        have hle : s1.heap.objs.size ≤ c ∧ c ≠ h'.objs.size := by
          simp only [List.mem_cons, List.not_mem_nil, or_false] at hcm
          rcases hcm with z | z | z | z | z <;> omega
        exact I1.fpOk hle.1 (by rw [upd_ne hle.2, upd_ne hle.2]; exact I1.hok.fresh hle.1)
      refine zip_drain (X := X) (pins := pins) (σ := σ) (xs := xs) (ys := ys) (H0 := H1) (B := X.A.in1) (I1.ok.hd hc) D ?_ hzx (fun s' H' items J1 J2 J3 J4 J5 => ⟨rfl, ?_⟩) (min xs.length ys.length) [] _ _ (by simp) I4 upd_same (kH _ _ hqx) (kH _ _ hqy) ⟨k4 _ _ hTI, h1.at fun o e => k4 _ o e, h2.at fun o e => k4 _ o e, .inl ⟨k4 _ _ hz, _, _, k4 _ _ hTO⟩⟩ fresh5 (fun j hj => by simp at hj) (fun c o _ e => kH c o e)
      · intro hmem
        simp only [List.mem_cons, List.not_mem_nil, or_false] at hmem
        have hsz : (h'.objs.size : Nat) = s1.heap.objs.size + 5 := hsz
        rcases hmem with z | z | z | z | z | z | z
        · exact absurd (show (h'.objs.size : Nat) = s1.heap.objs.size + 4 from z) (by omega)
        · exact absurd (show (h'.objs.size : Nat) = s1.heap.objs.size + 2 from z) (by omega)
        · exact absurd (show (h'.objs.size : Nat) = s1.heap.objs.size + 3 from z) (by omega)
        · exact absurd (show (h'.objs.size : Nat) = s1.heap.objs.size from z) (by omega)
        · exact absurd (show (h'.objs.size : Nat) = s1.heap.objs.size + 1 from z) (by omega)
        · exact absurd z.symm (Nat.ne_of_lt (Nat.lt_of_lt_of_le p1.lt (by show s1.heap.objs.size ≤ h'.objs.size; omega)))
        · exact absurd z.symm (Nat.ne_of_lt (Nat.lt_of_lt_of_le p3.lt (by show s1.heap.objs.size ≤ h'.objs.size; omega)))
      · exact ⟨.ref h'.objs.size, H', J1, rfl, q _ items H' hSn J2 J3 J4 fun c o e => J5 c o (nS c (by rw [e]; simp)) e⟩
/-- list(zip(a, b)) as data -/
theorem pp_listZip {e e2 : Expr} {fs : FEs} {p p2 pos pos2 : Pos} (hc : X.calm = true) (hg : Gl X "list") (hm : X.mg "list" = none) (hg2 : Gl X "zip") (hm2 : X.mg "zip" = none) (ha : PPA X [e, e2] fs)
    (hs : starEach [e, e2] X.env = (false, eval e X.env) :: starEach [e2] X.env := by rfl) (hpl : (backTo pos2 (starEach [e2] X.env)).any (·.1) = false := by rfl)
    (hs2 : starEach [.Call (.Name "zip" p2) [e, e2] [] pos2] X.env = (false, eval (.Call (.Name "zip" p2) [e, e2] [] pos2) X.env) :: starEach [] X.env := by rfl) :
    PP X (.Call (.Name "list" p) [.Call (.Name "zip" p2) [e, e2] [] pos2] [] pos) (wListZip fs) :=
  (pe_listZip hc hg hm hg2 hm2 ha hs hpl hs2).imp fun σ H Q ⟨g, M, env, Qd, s, q, k⟩ => ⟨g, M, env, _, s, q, fun ds vs H1 q1 g1 r1 => by
    split at q1
    · rename_i as bs
      obtain ⟨v, us, e, r, r2⟩ := r1.inv_cons
      obtain ⟨v', us', e', r', r2'⟩ := r2.inv_cons
      rw [r2'.inv_nil] at e'
      subst e' e
      have s1 := s.grow g1
      cases r with
      | @lst a xs _ h n rs => cases r' with
        | @lst b ys _ h' n' rs' =>
          refine ⟨a, b, xs, ys, rfl, h, h', fun p items H2 hp hl hlen pr kp => ?_⟩
          obtain ⟨tk, ta, tm, tc, h1, h2, h3, h4⟩ := s1.wd.tape
          have g2 : Grow X.K g.T M H1 H2 := ⟨fun c o _ e => kp c o e, tk, ta, tm, tc, kp _ _ h1, kp _ _ h2, h3, h4⟩
          refine k _ _ _ q1 (g1.trans g2) (.lst hl (s1.wd.fresh hp) ?_)
          have rs2 := s1.wd.reps g2 rs
          have rs2' := s1.wd.reps g2 rs'
          have l1 := rs.length
          have l2 := rs'.length
          refine reps_of (by simp [zipD]; omega) fun j hj => ?_
          obtain ⟨T, x, y, e1, e2, e3, e4, e5⟩ := pr j hj
          have hja : j < as.length := by
            have := (List.getElem?_eq_some_iff.mp e2).1; omega
          have hjb : j < bs.length := by
            have := (List.getElem?_eq_some_iff.mp e3).1; omega
          have ea : as[j]? = some as[j] := List.getElem?_eq_getElem hja
          have eb : bs[j]? = some bs[j] := List.getElem?_eq_getElem hjb
          obtain ⟨x', ex, rx⟩ := rs2.get ea
          obtain ⟨y', ey, ry⟩ := rs2'.get eb
          rw [e2] at ex
          rw [e3] at ey
          cases ex
          cases ey
          exact ⟨_, _, e1, zipD_get ea eb, .tup e4 (s1.wd.fresh e5) (.cons rx (.cons ry .nil))⟩
    · exact q1.elim⟩
end
end Pl
end

section
set_option Elab.async false
set_option linter.all false
set_option maxRecDepth 100000
set_option maxHeartbeats 4000000
set_option autoImplicit false
namespace Pl
open PySem PySem.Spec PyProof.Rows L2
/-! ### methods of lists that change nothing -/
def LmA (K : PySem.W.Frag) (r : V → List V → Hp → VK → Prop) (φ : Fn) : Prop :=
  ∀ (T : Tp) (M : Addr → Prop) (H : Hp) (x : V) (vs : List V) (a : List D) (ds : List D) (Q : VK) (Qd : D → Prop), Wd K T M H → BRep K T M H x (.lst a) → Reps K T M H vs ds → φ (.lst a :: ds) Qd → (∀ d v H', Qd d → Grow K T M H H' → Rep K T M H' v d → Q v H') → r x vs H Q
section
variable {X : Cx} {o e : Expr} {es : List Expr} {f : FE} {fs : FEs} {m : Str} {apos pos : Pos} {id : String} {r : V → List V → Hp → VK → Prop} {φ : Fn}
theorem pp_lm (slot : PySem.Slot "list" m id) (hty : typeOf (.builtin id) = pure (.type "method_descriptor")) (hm : MtR X id r) (hφ : LmA X.K r φ) (ho : PB X o f) (ha : PPA X (e :: es) fs)
    (hbase : attributeBase o m X.env (eval o X.env) = eval o X.env := by rfl)
    (hfew : ((backTo pos (starEach (e :: es) X.env)).all (fun x => !x.1) && (backToKw pos (keywordEach [] X.env)).all (fun x => x.1.isSome)
      && decide ((e :: es).length + ([] : List Keyword).length + (if ([] : List Keyword).isEmpty then 0 else 1) < 30)) = true := by rfl)
    (hline : (apos.endLine == pos.line) = true := by rfl) (hs : starEach (e :: es) X.env = (false, eval e X.env) :: starEach es X.env := by rfl) (hplain : (backTo pos (starEach es X.env)).any (·.1) = false := by rfl) :
    PP X (.Call (.Attribute o m apos) (e :: es) [] pos) (wLm φ f fs) :=
  (pe_bm PySem.F.plainAttrs_list slot hty hm ho ha hbase hfew hline hs hplain).imp fun σ H Q ⟨g, M, env, Qd, s, q, k⟩ => ⟨g, M, env, _, s, q, fun dx x H1 q1 g1 r1 => by
    split at q1
    · rename_i a
      have s1 := s.grow g1
      obtain ⟨l, vs, ex, hl, rs⟩ := r1.lst
      subst ex
      refine ⟨.inl ⟨rfl, vs, .of hl⟩, g, M, env, _, s1, q1, fun xs us H2 q2 g2 r2 => ?_⟩
      exact hφ g.T M H2 _ us a xs Q Qd (s1.grow g2).wd (s1.wd.brep g2 r1) r2 q2 fun d v H' a b c => k d v H' a ((g1.trans g2).trans b) c
    · exact q1.elim⟩
end
section
variable {K : PySem.W.Frag} {T : Tp} {M : Addr → Prop} {H : Hp}
theorem flat_all : ∀ {vs : List V} {ds : List D}, Reps K T M H vs ds → ds.all flatD = true → vs.all flatV = true
  | _, _, .nil, _ => rfl
  | v :: vs, d :: ds, .cons r t, f => by
    rw [List.all_cons, Bool.and_eq_true] at f ⊢
    exact ⟨r.b.flat f.1, flat_all t f.2⟩
end
theorem lm_index {K : PySem.W.Frag} : LmA K (rIndex K) bIndex := by
  intro T M H x vs a ds Q Qd w rx rs q k
  unfold bIndex at q
  split at q
  · rename_i a' y e
    cases e
    obtain ⟨fy, fa, j, hj, q⟩ := q
    obtain ⟨v, us, e, r1, r2⟩ := rs.inv_cons
    rw [r2.inv_nil] at e
    subst e
    obtain ⟨l, ws, ex, hl, rl⟩ := rx.lst
    rw [List.findIdx?_eq_some_iff_getElem] at hj
    obtain ⟨hjl, e1, e2⟩ := hj
    obtain ⟨z, hz, rz⟩ := rl.get (List.getElem?_eq_getElem hjl)
    have fz : ∀ {i : Nat} {d : D}, a[i]? = some d → flatD d = true := fun h => List.all_eq_true.mp fa _ (List.mem_of_getElem? h)
    refine ⟨l, ws, v, j, z, ex, rfl, .of hl, r1.b.flat fy, flat_all rl fa, hz, ?_, fun m z' hm hz' => ?_, k _ _ _ q (.refl w) (.int _)⟩
    · rw [eqV_deq rz r1.b (fz (List.getElem?_eq_getElem hjl)) fy]; exact e1
    · have hml : m < a.length := by omega
      obtain ⟨z2, hz2, rz2⟩ := rl.get (List.getElem?_eq_getElem hml)
      rw [hz'] at hz2
      cases hz2
      rw [eqV_deq rz2 r1.b (fz (List.getElem?_eq_getElem hml)) fy]
      simpa using e2 m hm
  · exact q.elim
/-- xs.count(y), flat items -/
def rCountF (K : PySem.W.Frag) : V → List V → Hp → VK → Prop := fun x xs H Q => ∃ (a : Addr) (ys : List V) (y : V), x = V.ref a ∧ xs = [y] ∧ SqL K H a ys ∧ flatV y = true ∧ ys.all flatV = true ∧ Q (.int (ys.countP fun z => eqV z y : Nat)) H
theorem countP_vals {y : V} : ∀ {ys : List V} {us : List Value}, Vals ys us → ys.all flatV = true → us.countP (eqU y) = ys.countP fun z => eqV z y
  | _, _, .nil, _ => rfl
  | z :: ys, u :: us, .cons r t, f => by
    rw [List.all_cons, Bool.and_eq_true] at f
    rw [List.countP_cons, List.countP_cons, countP_vals t f.2, eqU_of r f.1]
theorem mt_countF {X : Cx} : MtR X "list.count" (rCountF X.K) := by
  intro pins s σ H x xs v us Q I rx rxs h
  obtain ⟨a, ys, y, rfl, rfl, hs, fy, fys, q⟩ := h
  cases rx
  obtain ⟨u, rfl, ru⟩ := rxs.one
  obtain ⟨its, rv, ⟨⟨cls, dd, data, sl⟩, n, ho, hc, hdn, hd⟩, hlen⟩ := I.list hs
  simp only at hc hd
  subst hc hd
  refine call_meets PySem.F.slot_list_count ⟨_, ho, rfl⟩ PySem.F.entry_list_count (PySem.F.args_list_count_2 _ _)
    (SeqAt.list_countAt a its.toArray n dd sl u (eqU y)) ⟨ho, fun w hw => mem_eqAt ru fy rv fys w (by simpa using hw), ?_⟩
  have ec : its.toArray.toList.countP (eqU y) = ys.countP fun z => eqV z y := countP_vals rv fys
  refine ⟨.int (ys.countP fun z => eqV z y : Nat), H, I.tok _, ⟨s.toks, ?_⟩, q⟩
  rw [← ec]
theorem countP_reps {K : PySem.W.Frag} {T : Tp} {M : Addr → Prop} {H : Hp} {y : V} {e : D} (ry : Rep K T M H y e) (fe : flatD e = true) : ∀ {ys : List V} {ds : List D}, Reps K T M H ys ds → ds.all flatD = true → (ys.countP fun z => eqV z y) = ds.countP fun z => deq z e
  | _, _, .nil, _ => rfl
  | z :: ys, d :: ds, .cons r t, f => by
    rw [List.all_cons, Bool.and_eq_true] at f
    rw [List.countP_cons, List.countP_cons, countP_reps ry fe t f.2, eqV_deq r ry.b f.1 fe]
theorem lm_count {K : PySem.W.Frag} : LmA K (rCountF K) bCount := by
  intro T M H x vs a ds Q Qd w rx rs q k
  unfold bCount at q
  split at q
  · rename_i a' y e
    cases e
    obtain ⟨fy, fa, q⟩ := q
    obtain ⟨v, us, e, r1, r2⟩ := rs.inv_cons
    rw [r2.inv_nil] at e
    subst e
    obtain ⟨l, ws, ex, hl, rl⟩ := rx.lst
    refine ⟨l, ws, v, ex, rfl, .of hl, r1.b.flat fy, flat_all rl fa, ?_⟩
    rw [countP_reps r1 fy rl fa]
    exact k _ _ _ q (.refl w) (.int _)
  · exact q.elim
/-! ### insert -/
def rInsert : V → List V → Hp → VK → Prop := fun x vs H Q => ∃ (l : Addr) (xs : List V) (i : Int) (y : V), x = .ref l ∧ vs = [.int i, y] ∧ H l = some (.lst xs) ∧ xs.length < sizeLine ∧ 0 ≤ i ∧ i < 2 ^ 63 ∧
    Q .non (upd H l (.lst (xs.take i.toNat ++ [y] ++ xs.drop i.toNat)))
theorem m_insert {K : PySem.W.Frag} : MutA K rInsert mInsert := by
  intro tp M H l us a Q Qd ds vs w ml lT h r rs q k
  unfold mInsert at q
  split at q
  · obtain ⟨v, ws, e, r1, r2⟩ := rs.inv_cons
    obtain ⟨v', ws', e', r1', r2'⟩ := r2.inv_cons
    rw [r2'.inv_nil] at e'
    subst e'
    rw [r1.b.int] at e
    subst e
    obtain ⟨h0, h1, h2, q⟩ := q
    refine ⟨l, us, _, v', rfl, rfl, h, by rw [line_eq, r.length]; exact h2, h0, by omega, ?_⟩
    exact k _ _ _ _ q .non ((((r.take _).append (.cons r1' .nil)).append (r.drop _)).updM ml)
  · exact q.elim
end Pl
end

section
set_option Elab.async false
set_option linter.all false
set_option maxRecDepth 100000
set_option maxHeartbeats 4000000
set_option autoImplicit false
namespace Pl
open PySem PySem.Spec PyProof.Rows L2
/-! ### a set made from a list, any kind of keys -/
section
variable {Ky : Type} [DecidableEq Ky]
theorem setK_snoc (l : List Ky) (k : Ky) : setK (l ++ [k]) = addK (setK l) k := by unfold setK; rw [List.foldl_append]; rfl
theorem setK_len (l : List Ky) : (setK l).length ≤ l.length := by
  have key : ∀ (l σ : List Ky), (l.foldl addK σ).length ≤ σ.length + l.length := by
    intro l
    induction l with
    | nil => intro σ; simp
    | cons a l ih =>
      intro σ
      rw [List.foldl_cons]
      refine Nat.le_trans (ih _) ?_
      have : (addK σ a).length ≤ σ.length + 1 := by unfold addK; split <;> simp
      simp only [List.length_cons]
      omega
  have := key l []
  rw [List.length_nil, Nat.zero_add] at this
  exact this
theorem addK_mem {σ : List Ky} {k j : Ky} : j ∈ addK σ k ↔ j ∈ σ ∨ j = k := by
  unfold addK
  split
  · rename_i h
    exact ⟨.inl, fun q => q.elim id fun e => e ▸ h⟩
  · simp
theorem addK_len {σ : List Ky} {k : Ky} : (addK σ k).length = if k ∈ σ then σ.length else σ.length + 1 := by unfold addK; split <;> simp
end
section
variable {prog : Program} {w : World} {A : Around} {R : Result → Shared → Prop} {I : Addr} {fp wr : List Addr} {G : Array GenState → Array GenState → Prop} {n : Nat} {P : Nat → Value → Prop} {St : Nat → Shared → Prop} {Ky : Type} [DecidableEq Ky] [BEq Ky] [LawfulBEq Ky] {knd : KeyKind prog w Ky}
theorem set_loop (W : WalksS prog w A.in1 I fp wr G n P St) (S : Addr) (hSf : S ∉ fp) (ks : List Ky) (hl : ks.length = n) (hval : ∀ i v, P i v → ∃ k, ks[i]? = some k ∧ knd.is k v = true ∧ v.scannable = true) (hb : n + 1 < scanBound) :
    ∀ (m i : Nat) (s : Shared), n - i = m → i ≤ n → St i s → s.heap.SetOf knd S (fun k => decide (k ∈ setK (ks.take i))) (setK (ks.take i)).length →
      (∀ s', Moved (S :: wr) G s s' → s'.heap.SetOf knd S (fun k => decide (k ∈ setK ks)) (setK ks).length → R (.ok (.ret .none)) s') →
      codeAny (model prog w) A (.builtin "set.update.loop" ⟨[.ref S, .ref I], []⟩) R s := by
  have hSw : S ∉ wr := fun h => hSf (W.sub _ h)
  have sub : ∀ b ∈ wr, b ∈ S :: wr := fun b hb => List.mem_cons_of_mem _ hb
  intro m
  induction m with
  | zero =>
    intro i s hm hi hst hS hR
    have e : i = n := by omega
    subst e
    rw [List.take_of_length_le (by omega)] at hS
    refine codeAny_builtin F.entry_set_update_loop ?_
    rw [Around.under_plainId F.plain_set_update_loop _]
    show wpAny _ A.in1 (pyNext (.ref I) >>= _) _ _ s
    refine wpAny_bind (W.done s _ _ hst fun s' mv => ?_)
    show wpAny _ A.in1 (ret Value.none) _ _ s'
    refine wpAny_pure (hR s' (mv.mono sub) ?_)
    obtain ⟨o, es, ep, t, ho, q⟩ := hS
    exact ⟨o, es, ep, t, mv.heap S _ hSw ho, q⟩
  | succ m ih =>
    intro i s hm hi hst hS hR
    have hlt : i < n := by omega
    refine codeAny_builtin F.entry_set_update_loop ?_
    rw [Around.under_plainId F.plain_set_update_loop _]
    show wpAny _ A.in1 (pyNext (.ref I) >>= _) _ _ s
    refine wpAny_bind (W.item i s _ _ hlt hst fun v s' hP hst' mv => ?_)
    obtain ⟨k, hk, isk, sck⟩ := hval i v hP
    have hS' : s'.heap.SetOf knd S (fun k => decide (k ∈ setK (ks.take i))) (setK (ks.take i)).length := by
      obtain ⟨o, es, ep, t, ho, q⟩ := hS
      exact ⟨o, es, ep, t, mv.heap S _ hSw ho, q⟩
    show wpAny _ A.in1 (holding [v] (setAdd S v) >>= _) _ _ s'
    refine wpAny_bind (wpAny_holding ?_)
    unfold setAdd
    refine wpAny_holding ?_
    refine wpAny_bind (knd.pyHash (k := k) isk ?_)
    have room : (setK (ks.take i)).length + 1 < scanBound := by
      have := setK_len (ks.take i)
      rw [List.length_take] at this
      omega
    refine wpAny_setAddHashed_of (knd := knd) (s := { s' with toks := s'.toks + 1 }) isk sck hS' room fun h' sb hS2 => ?_
    have et : ks.take (i + 1) = ks.take i ++ [k] := by rw [List.take_add_one, hk]; rfl
    have hS3 : h'.SetOf knd S (fun j => decide (j ∈ setK (ks.take (i + 1)))) (setK (ks.take (i + 1))).length := by
      refine SetOf_congr hS2 (fun j => ?_) ?_
      · rw [et, setK_snoc]
        simp only [addK_mem, Bool.decide_or]
      · rw [et, setK_snoc, addK_len]
        by_cases c : k ∈ setK (ks.take i)
        · rw [if_pos (decide_eq_true c), if_pos c]
        · rw [if_neg (by simpa using c), if_neg c]
    refine wpAny_pure ⟨plainId_quiet F.plain_set_update_loop _, ih (i + 1) _ (by omega) hlt (W.frame _ s' _ _ hst' (Nat.le_succ _) fun b hb o e => ?_) hS3 fun s2 mv2 hS4 => ?_⟩
    · rw [sb.2 b (fun z : b = S => hSf (z ▸ hb))]; exact e
    · refine hR s2 (Moved.trans W.gtrans ((mv.mono sub).then_heap (Nat.le_succ _) fun b o hb e => ?_) mv2) hS4
      rw [sb.2 b (fun z : b = S => hb (by rw [z]; exact List.mem_cons_self))]; exact e
end
section
variable {prog : Program} {w : World} {A : Around} {E : Value → Shared → Prop} {s : Shared} {Ky : Type} [DecidableEq Ky] [BEq Ky] [LawfulBEq Ky] {knd : KeyKind prog w Ky}
/-- set(xs), xs a list of keys -/
theorem call_set_keys {l : Addr} {items : Array Value} {ks : List Ky} {Q : Value → Shared → Prop} (hh : A.handled = none) (hl : s.heap.IsList l items) (hn : ks.length = items.size) (hv : ∀ (i : Nat) (v : Value), items[i]? = some v → ∃ k, ks[i]? = some k ∧ knd.is k v = true ∧ v.scannable = true) (hb : items.size + 1 < scanBound)
    (h : ∀ (h' : Heap) (tk : Nat), h'.SetOf knd s.heap.objs.size (fun k => decide (k ∈ setK ks)) (setK ks).length → (∀ b o, b < s.heap.objs.size → s.heap.get? b = some o → h'.get? b = some o) → Q (.ref s.heap.objs.size) { s with heap := h', toks := tk }) :
    wpAny (model prog w) A (call (.type "set") [.ref l]) Q E s := by
  obtain ⟨c, tl, hmro⟩ := F.called_set.mro
  have hmade := F.called_set.made
  have hsub := F.called_set.sub
  refine wpAny_call (codeAny_of_tree ?_)
  show wpAny _ _ (callAny (.type "set") _) _ _ _
  refine wpAny_pure ⟨Code.quiet_builtin _ (by decide +kernel), codeAny_builtin F.entry_type_call ?_⟩
  rw [Around.under_plain (weight_type_call_type "set" [.ref l] []) rfl]
  have h1 := F.called_set.notType
  have h2 := F.called_set.canCreate
  have hct := F.typeCall_set_1 (.ref l)
  repeat (any_goals (first | assumption | wp_step))
  refine codeAny_mono (code_set_new_1 (.ref l) (E := E) (Q₁ := fun obj s₁ => ∃ led : Bool, obj = .ref s.heap.objs.size ∧ s₁ = { s with heap := s.heap.push { cls := .type "set", dict := none, data := .set #[] 0 (.fresh 0 0 led) } }) fun led => ⟨led, rfl, rfl⟩) fun r s₁ hr => ?_
  cases r with
  | error e => exact hr
  | ok fl =>
    cases fl with
    | ret obj =>
      obtain ⟨led, rfl, rfl⟩ := hr
      have hS : (s.heap.push { cls := .type "set", dict := none, data := .set #[] 0 (.fresh 0 0 led) }).get? s.heap.objs.size = some { cls := .type "set", dict := none, data := .set #[] 0 (.fresh 0 0 led) } := Heap.get?_push_size _ rfl
      have hT : Shared.TypeIs { s with heap := s.heap.push { cls := .type "set", dict := none, data := .set #[] 0 (.fresh 0 0 led) } } (.ref s.heap.objs.size) "set" := ⟨_, hS, rfl⟩
      have hli := F.called_set.init.lookup
      have hbi := F.called_set.init.bind (.ref s.heap.objs.size)
      repeat (any_goals (first | assumption | wp_step))
      refine codeAny_mono (codeAny_call_builtin (R := wants (fun r s₂ => r = .none ∧ ∃ h' tk, s₂ = { s with heap := h', toks := tk } ∧ h'.SetOf knd s.heap.objs.size (fun k => decide (k ∈ setK ks)) (setK ks).length ∧
          (∀ b o, b < s.heap.objs.size → s.heap.get? b = some o → h'.get? b = some o)) E) F.called_set.init.plain F.entry_set_init (check_set_init_1 hT ?_)) fun r₂ s₂ hr₂ => ?_
      · obtain ⟨⟨ocls, odict, odata, oslots⟩, hol, hcl, nl, hdl⟩ := id hl
        simp only at hcl hdl
        subst hcl hdl
        have hol' := Heap.get?_push_of_some { cls := .type "set", dict := none, data := .set #[] 0 (.fresh 0 0 led) } hol
        have e1 := F.sub_list_set
        have e2 := F.sub_list_frozenset
        have e3 : (Value.type "list" == Value.type "dict") = false := by decide
        have hl1 := hl.push { cls := .type "set", dict := none, data := .set #[] 0 (.fresh 0 0 led) }
        unfold Builtin.«set.__init__» noKeywords Builtin.Frozenset.updateFrom
        generalize hPI : pyIter = PI
        wp_walk
        subst hPI
        refine wpAny_pyIter_list hl1 ?_
        refine wpAny_bind (wpAny_runValue ?_)
        have lS : l < s.heap.objs.size := Heap.lt_size hol
        have sz : (s.heap.push { cls := .type "set", dict := none, data := .set #[] 0 (.fresh 0 0 led) }).objs.size = s.heap.objs.size + 1 := Heap.size_push _ _
        have nI : l ≠ (s.heap.push { cls := .type "set", dict := none, data := .set #[] 0 (.fresh 0 0 led) }).objs.size := by rw [sz]; exact Nat.ne_of_lt (Nat.lt_succ_of_lt lS)
        have nf : s.heap.objs.size ∉ [(s.heap.push { cls := .type "set", dict := none, data := .set #[] 0 (.fresh 0 0 led) }).objs.size, l] := by
          rw [sz]; simp only [List.mem_cons, List.not_mem_nil, or_false, not_or]
          exact ⟨Nat.ne_of_lt (Nat.lt_succ_self _), Nat.ne_of_gt lS⟩
        refine set_loop (knd := knd) ((Walks.list (by simp [hh]) _ l nI items).toS) s.heap.objs.size nf ks hn hv hb (items.size - 0) 0 _ (by omega) (Nat.zero_le _) ⟨⟨_, Heap.get?_push_size _ rfl, rfl, rfl⟩, (hl1.push _)⟩ ?_ ?_
        · have g := Heap.get?_push_of_some { cls := .type "list_iterator", data := .fields #[.ref l, .int 0 0] } hS
          exact SetOf_congr ((setObjOf_fresh (knd := knd) led).setOf g (show (0 : Nat) < scanBound by unfold scanBound; omega)) (fun _ => rfl) rfl
        · intro s' hm hS'
          obtain ⟨h', g', d', tk', os'⟩ := s'
          have eg : g' = s.gens := hm.gens
          have ed : d' = s.drawn := hm.drawn
          have eo : os' = s.os := hm.os
          subst eg ed eo
          show wpAny _ _ _ _ _ _
          refine wpAny_pure ?_
          show wpAny _ _ (ret Value.none) _ _ _
          refine wpAny_pure ⟨rfl, h', tk', rfl, hS', fun b o hb e => hm.heap b o ?_ (Heap.get?_push_of_some _ (Heap.get?_push_of_some _ e))⟩
          simp only [List.mem_cons, List.not_mem_nil, or_false, not_or]
          exact ⟨Nat.ne_of_lt hb, by rw [sz]; exact Nat.ne_of_lt (Nat.lt_succ_of_lt hb)⟩
      · cases r₂ with
        | error e => exact hr₂
        | ok fl₂ =>
          cases fl₂ with
          | ret r =>
            obtain ⟨rfl, h', tk, rfl, hS', hk'⟩ := hr₂
            repeat (any_goals (first | assumption | wp_step))
            exact h _ _ hS' hk'
          | _ => exact hr₂.elim
    | _ => exact hr.elim
end
/-! ### len(set(xs)) -/
def tLenSetK (K : PySem.W.Frag) (ta : TE) : TE := fun σ H Q => ta σ H fun x H1 => ∃ l, x = .ref l ∧ ((∃ ns : List Int, SqL K H1 l (ns.map V.int) ∧ ns.length ≤ 1000 ∧ Q (.int (setK ns).length) H1) ∨ ∃ ns : List Str, SqL K H1 l (ns.map V.str) ∧ ns.length ≤ 1000 ∧ Q (.int (setK ns).length) H1)
section
variable {X : Cx}
theorem pe_lenSetK {a : Expr} {ta : TE} {p p2 q pos : Pos} (hc : X.calm = true) (hg : Gl X "len") (hm : X.mg "len" = none) (hg2 : Gl X "set") (hm2 : X.mg "set" = none) (ha : PE X a ta)
    (na : starEach [a] X.env = (false, eval a X.env) :: starEach [] X.env := by rfl) : PE X (.Call (.Name "len" p) [.Call (.Name "set" p2) [a] [] q] [] pos) (tLenSetK X.K ta) := by
  refine ⟨fun pins s σ H Q I h => ?_⟩
  refine Call_ (ld_blt I hg hm PySem.boot_len ?_)
  refine PyProof.Rows.callWith_builtin1 (PyProof.Rows.args_cons ?_ rfl) rfl rfl
  refine Call_ (ld_blt I hg2 hm2 PyProof.Rows.boot_set ?_)
  refine PyProof.Rows.callWith_type1 (PyProof.Rows.args_cons (thn (ha.run pins s σ H _ I h) fun v s1 ⟨x, H1, I1, r1, q1⟩ => PyProof.Rows.args_nil ?_) na) na rfl
  obtain ⟨l, rfl, q1⟩ := q1
  cases r1
  have fin : ∀ {Ky : Type} [DecidableEq Ky] [BEq Ky] [LawfulBEq Ky] (knd : KeyKind X.prog X.w Ky) (ks : List Ky) (h' : Heap) (tk : Nat), ks.length ≤ 1000 → Q (.int (setK ks).length) H1 → h'.SetOf knd s1.heap.objs.size (fun k => decide (k ∈ setK ks)) (setK ks).length →
      (∀ b o, b < s1.heap.objs.size → s1.heap.get? b = some o → h'.get? b = some o) →
      wpAny (model X.prog X.w) X.A (spliced (backTo pos (starEach [] X.env))) (fun vs s₂ => wpAny (model X.prog X.w) X.A (call (.builtin "len") (Value.ref s1.heap.objs.size :: vs)) (EP X pins σ Q) X.xe s₂) X.xe { s1 with heap := h', toks := tk } := by
    intro Ky _ _ _ knd ks h' tk hle qq hS hk
    refine PyProof.Rows.args_nil ?_
    have := setK_len ks
    obtain ⟨o, es, ep, t, ho, hex, hd, _, _, _, hf, hn⟩ := hS
    have I2 : Inv X pins σ H1 { s1 with heap := h', toks := tk } := I1.kept fun b o e => hk b o (Heap.lt_size e) e
    exact call_len_set ho hex hd hf (by rw [hn] <;> omega) ⟨.int (setK ks).length, H1, I2.tok _, ⟨_, by rw [hn]⟩, qq⟩
  rcases q1 with ⟨ns, hq, hle, q1⟩ | ⟨ns, hq, hle, q1⟩
  · obtain ⟨its, r, pl, hz⟩ := I1.list hq
    have hlen : ns.length = its.toArray.size := by rw [List.size_toArray, ← r.length, List.length_map]
    refine call_set_keys (knd := intKind X.prog X.w) (ks := ns) (I1.ok.hd hc) pl.isList hlen (fun i v hv => ?_) (by unfold scanBound; omega) fun h' tk hS hk => fin _ ns h' tk hle q1 hS hk
    have hv' : its[i]? = some v := by simpa using hv
    have hi : i < ns.length := by rw [hlen]; simpa using (List.getElem?_eq_some_iff.mp hv').1
    obtain ⟨u, hu, t, hu'⟩ := r.get (i := i) (x := .int ns[i]) (by simp [hi])
    rw [hv'] at hu
    cases hu
    subst hu'
    exact ⟨ns[i], List.getElem?_eq_getElem hi, intKind_is _ _ _ _, rfl⟩
  · obtain ⟨its, r, pl, hz⟩ := I1.list hq
    have hlen : ns.length = its.toArray.size := by rw [List.size_toArray, ← r.length, List.length_map]
    refine call_set_keys (knd := strKind X.prog X.w) (ks := ns) (I1.ok.hd hc) pl.isList hlen (fun i v hv => ?_) (by unfold scanBound; omega) fun h' tk hS hk => fin _ ns h' tk hle q1 hS hk
    have hv' : its[i]? = some v := by simpa using hv
    have hi : i < ns.length := by rw [hlen]; simpa using (List.getElem?_eq_some_iff.mp hv').1
    obtain ⟨u, hu, t, hu'⟩ := r.get (i := i) (x := .str ns[i]) (by simp [hi])
    rw [hv'] at hu
    cases hu
    subst hu'
    exact ⟨ns[i], List.getElem?_eq_getElem hi, strKind_is _ _ _ _, rfl⟩
theorem strs_reps {K : PySem.W.Frag} {T : Tp} {M : Addr → Prop} {H : Hp} : ∀ {vs : List V} {ds : List D} {ns : List Str}, Reps K T M H vs ds → strsD ds = some ns → vs = ns.map V.str
  | _, _, ns, .nil, h => by cases h; rfl
  | v :: vs, d :: ds, ns, .cons r t, h => by
    cases d <;> simp [strsD] at h
    rename_i i
    obtain ⟨ns', h', rfl⟩ := h
    rw [r.b.str, strs_reps t h']; rfl
theorem pp_lenSet {a : Expr} {f : FE} {p p2 q pos : Pos} (hc : X.calm = true) (hg : Gl X "len") (hm : X.mg "len" = none) (hg2 : Gl X "set") (hm2 : X.mg "set" = none) (ha : PB X a f)
    (na : starEach [a] X.env = (false, eval a X.env) :: starEach [] X.env := by rfl) : PP X (.Call (.Name "len" p) [.Call (.Name "set" p2) [a] [] q] [] pos) (wLenSet f) :=
  (pe_lenSetK hc hg hm hg2 hm2 ha na).imp fun σ H Q ⟨g, M, env, Qd, s, q, k⟩ => ⟨g, M, env, _, s, q, fun d v H1 q1 g1 r1 => by
    split at q1
    · rename_i a
      obtain ⟨l, vs, ex, hl, rs⟩ := r1.lst
      subst ex
      obtain ⟨hle, n, hn, q1⟩ := q1
      have hlen := rs.length
      refine ⟨l, rfl, ?_⟩
      unfold dedLen at hn
      cases hi : intsD a with
      | some ns =>
        rw [hi] at hn
        cases hn
        have e := ints_reps rs hi
        subst e
        exact .inl ⟨ns, .of hl, (by have z : (ns.map V.int).length ≤ 1000 := (by omega); rw [List.length_map] at z; exact z), k _ _ _ q1 g1 (.int _)⟩
      | none =>
        rw [hi] at hn
        obtain ⟨ns, hs, rfl⟩ := Option.map_eq_some_iff.mp hn
        have e := strs_reps rs hs
        subst e
        exact .inr ⟨ns, .of hl, (by have z : (ns.map V.str).length ≤ 1000 := (by omega); rw [List.length_map] at z; exact z), k _ _ _ q1 g1 (.int _)⟩
    · exact q1.elim⟩
end
/-! ### constants that are ints -/
open PySem.W He in
def kInt (x : Str) (i : Int) : KB := fun K => (He.Fa.int x i).ok K
structure CstI (mg : Str → Option Value) (x : Str) (i : Int) : Prop where
  ex : ∃ t, mg x = some (.int i t)
theorem csti_of {K : PySem.W.Frag} {h : Heap} {mg : Str → Option Value} {bs : List KB} {fn : List He.DefD} (X : K.In h) (G : h.Ns mainGlobals mg) (c : SaysB bs fn K) (j : Nat) {x : Str} {i : Int} (e2 : bs[j]? = some (kInt x i) := by rfl) : CstI mg x i := ⟨He.int_ok X G (c.fact j e2)⟩
theorem pp_csti {X : Cx} {x : Str} {i : Int} {pos : Pos} (c : CstI X.mg x i) (hg : Gl X x) (hd : (x == ("__debug__" : Str)) = false := by decide) : PP X (.Name x pos) (wC (.int i)) := by
  obtain ⟨t, hm⟩ := c.ex
  exact pp_glob (v := .int i) hg hm ⟨t, rfl⟩ (fun _ _ _ => .int i) hd
end Pl
end

section
set_option Elab.async false
set_option linter.all false
set_option maxRecDepth 100000
set_option maxHeartbeats 4000000
set_option autoImplicit false
namespace Pl
open PySem PySem.Spec PyProof.Rows L2
/-! ### list(reversed(xs)) -/
section
variable {prog : Program} {w : World} {A : Around} {E : Value → Shared → Prop} {s : Shared}
theorem call_list_rev {it l : Addr} {items : Array Value} {Q : Value → Shared → Prop} (hh : A.handled = none) (hit : s.heap.IsRevIter it l ((items.size : Int) - 1)) (hl : s.heap.IsList l items) (hne : l ≠ it) (hn : items.size ≤ sizeLine)
    (hQ : ∀ (h' : Heap) (tk : Nat) (acc : Array Value) (c : Nat), (∀ b o, b ≠ it → s.heap.get? b = some o → h'.get? b = some o) → ItemsOf (fun i v => items[items.size - 1 - i]? = some v) acc items.size → h'.get? s.heap.objs.size = some { cls := .type "list", data := .seq acc c } → Q (.ref s.heap.objs.size) { s with heap := h', toks := tk }) :
    wpAny (model prog w) A (call (.type "list") [.ref it]) Q E s := by
  refine callType_codes (Q₁ := fun obj s₁ => obj = .ref s.heap.objs.size ∧ s₁ = { s with heap := s.heap.push { cls := .type "list", data := .seq #[] } }) F.called_list (F.typeCall_list_1 _) F.entry_list_init
    (code_list_new _ ⟨rfl, rfl⟩) fun obj s₁ hh₁ => ?_
  obtain ⟨rfl, rfl⟩ := hh₁
  have hS : (s.heap.push { cls := .type "list", data := .seq #[] }).get? s.heap.objs.size = some { cls := .type "list", data := .seq #[] } := Heap.get?_push_size _ rfl
  refine ⟨⟨_, hS, rfl⟩, F.args_list_init_2 _ _, ?_⟩
  obtain ⟨oi, hoi, _⟩ := id hit
  obtain ⟨ol, hol, _⟩ := id hl
  have hSi : s.heap.objs.size ≠ it := Nat.ne_of_gt (Heap.lt_size hoi)
  have hSl : s.heap.objs.size ≠ l := Nat.ne_of_gt (Heap.lt_size hol)
  have k1 : ∀ b o, s.heap.get? b = some o → (s.heap.push { cls := .type "list", data := .seq #[] }).get? b = some o := fun b o e => Heap.get?_push_of_some _ e
  have up : ∀ (hh : Heap) (f : Obj → Obj), (∀ b o, s.heap.get? b = some o → hh.get? b = some o) → ∀ b o, s.heap.get? b = some o → (hh.update s.heap.objs.size f).get? b = some o := fun hh f q b o e =>
    (Heap.get?_update_other _ _ (Ne.symm (Nat.ne_of_lt (Heap.lt_size e)))).trans (q b o e)
  have k2 := up _ (Obj.mapSeq (fun _ => (#[] : Array Value))) k1
  show wpAny _ A.in1.in1 (do let old ← Builtin.List.listItems (.ref s.heap.objs.size); Builtin.List.listUpdate (.ref s.heap.objs.size) (fun _ => #[]); letGo old.toList.reverse; Builtin.List.listExtendWith (.ref s.heap.objs.size) (.ref it) .none) _ _ _
  refine wpAny_bind ?_
  unfold Builtin.List.listItems
  refine wpAny_bind (wpAny_seqItems hS rfl (wpAny_pure ?_))
  show wpAny _ A.in1.in1 (updateSeq s.heap.objs.size (fun _ => #[]) >>= fun _ => letGo (#[] : Array Value).toList.reverse >>= fun _ => Builtin.List.listExtendWith (.ref s.heap.objs.size) (.ref it) .none) _ _ _
  refine wpAny_bind (wpAny_updateSeq hS rfl ?_)
  have hS2 := Heap.get?_update_self (Obj.mapSeq (fun _ => (#[] : Array Value))) hS rfl
  refine wpAny_bind (wpAny_letGo ?_)
  generalize hG : ((s.heap.push { cls := .type "list", data := .seq #[] }).update s.heap.objs.size (Obj.mapSeq fun _ => #[])) = G at *
  have hitG : G.IsRevIter it l ((items.size : Int) - 1) := hit.at fun o e => k2 _ o e
  have hlG : G.IsList l items := hl.at fun o e => k2 _ o e
  have hT : ({ s with heap := G } : Shared).TypeIs (.ref it) "list_reverseiterator" := Heap.IsRevIter.typeIs (s := { s with heap := G }) hitG
  have h1 : Builtin.List.listSameRef (.ref s.heap.objs.size) (.ref it) = false := by simp [Builtin.List.listSameRef, hSi]
  unfold Builtin.List.listExtendWith
  refine wpAny_bind (wpAny_typeOf hT ?_)
  rw [if_neg (by rw [h1]; decide)]
  refine wpAny_bind (wpAny_pyIter_revIter (s := { s with heap := G }) hitG ?_)
  refine wpAny_bind (wpAny_holding ?_)
  unfold Builtin.List.listLengthHint
  refine wpAny_bind (wpAny_specialOf hT RT.nolen_lri ?_)
  show wpAny _ A.in1.in1 (specialOf (Value.ref it) (Str.ofString "__length_hint__") >>= _) _ _ _
  refine wpAny_bind (wpAny_specialOf hT RT.hint_lri ?_)
  generalize hid : ("list_reverseiterator.__length_hint__" : String) = id0
  wp_delta
  rw [show splitId id0 = some ("list_reverseiterator", "__length_hint__") from by subst hid; decide +kernel]
  subst hid
  refine wpAny_bind (wpAny_isInstance (b := true) hT (by rw [isSubtype_type]; kernel_rfl) ?_)
  refine wpAny_pure ?_
  rw [if_neg (by decide)]
  have W := (Walks.listRev (prog := prog) (w := w) (A := A.in1.in1) hh it l hne items).toS
  have hSf : s.heap.objs.size ∉ [it, l] := by simp only [List.mem_cons, List.not_mem_nil, or_false, not_or]; exact ⟨hSi, hSl⟩
  have e0 : ((items.size : Nat) : Int) - 1 - ((0 : Nat) : Int) = (items.size : Int) - 1 := by omega
  refine wpAny_pure ⟨plainId_quiet F.plain_extend_loop _, codeAny_extend_loopS W hn _ hSf _ items.size 0 _ _ _ rfl (Nat.zero_le _) ⟨Nat.zero_le _, by rw [e0]; exact hitG, hlG⟩ hS2 (ItemsOf.nil _) fun s' acc' c' hm hS' hacc => ?_⟩
  rw [Moved.eq_with hm]
  refine ⟨rfl, hQ s'.heap s'.toks acc' c' (fun b o hb e => hm.heap b o (fun hmem => ?_) (k2 _ o e)) hacc hS'⟩
  rcases List.mem_cons.mp hmem with e' | hmem
  · exact absurd (Heap.lt_size e) (by rw [e']; exact Nat.lt_irrefl _)
  · exact hb (List.mem_singleton.mp hmem)
end
section
variable {X : Cx}
def tListRev (K : PySem.W.Frag) (te : TE) : TE := fun σ H Q => te σ H fun v H1 => ∃ (a : Addr) (xs : List V), v = .ref a ∧ SqL K H1 a xs ∧ ∀ q, H1 q = none → Q (.ref q) (upd H1 q (.lst xs.reverse))
theorem pe_listRev {e : Expr} {te : TE} {p p2 pos pos2 : Pos} (hc : X.calm = true) (hg : Gl X "list") (hm : X.mg "list" = none) (hg2 : Gl X "reversed") (hm2 : X.mg "reversed" = none) (he : PE X e te)
    (hs : starEach [e] X.env = (false, eval e X.env) :: starEach [] X.env := by rfl)
    (hs2 : starEach [.Call (.Name "reversed" p2) [e] [] pos2] X.env = (false, eval (.Call (.Name "reversed" p2) [e] [] pos2) X.env) :: starEach [] X.env := by rfl) :
    PE X (.Call (.Name "list" p) [.Call (.Name "reversed" p2) [e] [] pos2] [] pos) (tListRev X.K te) := by
  refine ⟨fun pins s σ H Q I h => ?_⟩
  refine Call_ (ld_blt I hg hm boot_list (PyProof.Rows.callWith_type1 (args_cons (Call_ (ld_blt I hg2 hm2 PyProof.Rows.boot_reversed (PyProof.Rows.callWith_type1 (args_cons (thn (he.run pins s σ H _ I h) fun u s1 ⟨v, H1, I1, r1, q1⟩ => args_nil ?_) hs) hs rfl))) hs2) hs2 rfl))
  obtain ⟨a, xs, ev, hq, q⟩ := q1
  subst ev
  obtain rfl : u = Value.ref a := r1
  obtain ⟨its, rv, p', hz⟩ := I1.list hq
  refine call_reversed_list p'.isList (args_nil ?_)
  have k0 : ∀ b o, s1.heap.get? b = some o → (s1.heap.push (revObj a ((its.toArray.size : Int) - 1))).get? b = some o := fun b o e => Heap.get?_push_of_some _ e
  have I2 : Inv X pins σ H1 { s1 with heap := s1.heap.push (revObj a ((its.toArray.size : Int) - 1)) } := I1.kept (t' := s1.toks) k0
  obtain ⟨f0, f1, f2, f3, f4, f5⟩ := I1.fpOk (H' := H1) (b := s1.heap.objs.size) (Nat.le_refl _) (I1.hok.fresh (Nat.le_refl _))
  have hl := p'.isList
  obtain ⟨ol, hol, _⟩ := id hl
  have hne : a ≠ s1.heap.objs.size := Nat.ne_of_lt (Heap.lt_size hol)
  have hn : its.toArray.size ≤ sizeLine := by rw [List.size_toArray, ← rv.length]; exact hz
  have hz2 : (s1.heap.push (revObj a ((its.toArray.size : Int) - 1))).objs.size = s1.heap.objs.size + 1 := Heap.size_push _ _
  generalize hN : (s1.heap.push (revObj a ((its.toArray.size : Int) - 1))).objs.size = N at *
  refine call_list_rev (s := { s1 with heap := s1.heap.push (revObj a ((its.toArray.size : Int) - 1)) }) (I1.ok.hd hc) ⟨_, Heap.get?_push_size _ rfl, rfl, rfl⟩ (hl.push _) hne hn fun h' tk acc c hk hi hS => ?_
  have hNn : H1 N = none := I1.hok.fresh (by omega)
  have e1 : (s1.heap.push (revObj a ((its.toArray.size : Int) - 1))).objs.size = N := hN
  rw [show ({ s1 with heap := s1.heap.push (revObj a ((its.toArray.size : Int) - 1)) } : Shared).heap.objs.size = N from hN] at hS ⊢
  have new : ObjOk X.prog X.w (upd H1 N (.lst xs.reverse)) h' N (.lst xs.reverse) := ⟨by rw [List.length_reverse]; exact hz, acc.toList, c, RT.vals_rev rv hi, by rw [Array.toArray_toList]; exact hS⟩
  exact ⟨.ref N, upd H1 N (.lst xs.reverse), I2.turnedNew (t' := tk) (ch := [s1.heap.objs.size]) (fun b o hb e => hk b o (by simpa using hb) e) (fun b hb => by
    have e : b = s1.heap.objs.size := by simpa using hb
    subst e
    exact ⟨f0, f1, f2, f3, f4, f5⟩) (Nat.le_of_eq hN) new, rfl, q N hNn⟩
theorem pf_listRev {e : Expr} {f : FE} {p p2 pos pos2 : Pos} (hc : X.calm = true) (hg : Gl X "list") (hm : X.mg "list" = none) (hg2 : Gl X "reversed") (hm2 : X.mg "reversed" = none) (he : PB X e f)
    (hs : starEach [e] X.env = (false, eval e X.env) :: starEach [] X.env := by rfl)
    (hs2 : starEach [.Call (.Name "reversed" p2) [e] [] pos2] X.env = (false, eval (.Call (.Name "reversed" p2) [e] [] pos2) X.env) :: starEach [] X.env := by rfl) :
    PF X (.Call (.Name "list" p) [.Call (.Name "reversed" p2) [e] [] pos2] [] pos) (wListRev f) :=
  (pe_listRev hc hg hm hg2 hm2 he hs hs2).imp fun σ H Q ⟨g, M, env, Qd, s, q, k⟩ => ⟨g, M, env, _, s, q, fun d v H1 q1 g1 r1 => by
    split at q1
    · rename_i a
      obtain ⟨l, vs, ex, hl, rs⟩ := r1.lst
      subst ex
      refine ⟨l, vs, rfl, .of hl, fun n hn => ?_⟩
      have s1 := s.grow g1
      have g2 : Grow X.K g.T M H1 (upd H1 n (.lst vs.reverse)) := .new s1.wd hn
      exact k _ _ _ q1 (g1.trans g2) (FRep.back s.wd g1 (FRep.lst s1.wd hn rs.reverse))
    · exact q1.elim⟩
end
/-! ### sorted(set(xs)) of ints -/
section
variable {prog : Program} {w : World} {A : Around} {E : Value → Shared → Prop} {s : Shared}
theorem call_set_ints {l : Addr} {items : Array Value} {ks : List Int} {Q : Value → Shared → Prop} (hh : A.handled = none) (hl : s.heap.IsList l items) (hn : items.size = ks.length) (hv : ∀ (i : Nat) (v : Value), items[i]? = some v → ∃ k t, ks[i]? = some k ∧ v = .int k t) (hb : ks.length + 1 < scanBound)
    (h : ∀ (h' : Heap) (tk c : Nat), SetR w h' s.heap.objs.size (fun j => decide (j ∈ ks)) c → c ≤ ks.length → (∀ b o, s.heap.get? b = some o → h'.get? b = some o) → Q (.ref s.heap.objs.size) { s with heap := h', toks := tk }) :
    wpAny (model prog w) A (call (.type "set") [.ref l]) Q E s := by
  obtain ⟨c, tl, hmro⟩ := F.called_set.mro
  have hmade := F.called_set.made
  have hsub := F.called_set.sub
  refine wpAny_call (codeAny_of_tree ?_)
  show wpAny _ _ (callAny (.type "set") _) _ _ _
  refine wpAny_pure ⟨Code.quiet_builtin _ (by decide +kernel), codeAny_builtin F.entry_type_call ?_⟩
  rw [Around.under_plain (weight_type_call_type "set" [.ref l] []) rfl]
  have h1 := F.called_set.notType
  have h2 := F.called_set.canCreate
  have hct := F.typeCall_set_1 (.ref l)
  repeat (any_goals (first | assumption | wp_step))
  refine codeAny_mono (code_set_led1 (.ref l) (E := E) (Q₁ := fun obj s₁ => obj = .ref s.heap.objs.size ∧ s₁ = { s with heap := s.heap.push { cls := .type "set", dict := none, data := .set #[] 0 (.fresh 0 0 (!w.params.followText "set-order")) } }) ⟨rfl, rfl⟩) fun r s₁ hr => ?_
  cases r with
  | error e => exact hr
  | ok fl =>
    cases fl with
    | ret obj =>
      obtain ⟨rfl, rfl⟩ := hr
      have hS : (s.heap.push { cls := .type "set", dict := none, data := .set #[] 0 (.fresh 0 0 (!w.params.followText "set-order")) }).get? s.heap.objs.size = some { cls := .type "set", dict := none, data := .set #[] 0 (.fresh 0 0 (!w.params.followText "set-order")) } := Heap.get?_push_size _ rfl
      have hT : Shared.TypeIs { s with heap := s.heap.push { cls := .type "set", dict := none, data := .set #[] 0 (.fresh 0 0 (!w.params.followText "set-order")) } } (.ref s.heap.objs.size) "set" := ⟨_, hS, rfl⟩
      have hli := F.called_set.init.lookup
      have hbi := F.called_set.init.bind (.ref s.heap.objs.size)
      repeat (any_goals (first | assumption | wp_step))
      refine codeAny_mono (codeAny_call_builtin (R := wants (fun r s₂ => r = .none ∧ ∃ h' tk c, s₂ = { s with heap := h', toks := tk } ∧ SetR w h' s.heap.objs.size (fun j => decide (j ∈ ks)) c ∧ c ≤ ks.length ∧
          (∀ b o, s.heap.get? b = some o → h'.get? b = some o)) E) F.called_set.init.plain F.entry_set_init (check_set_init_1 hT ?_)) fun r₂ s₂ hr₂ => ?_
      · obtain ⟨⟨ocls, odict, odata, oslots⟩, hol, hcl, nl, hdl⟩ := id hl
        simp only at hcl hdl
        subst hcl hdl
        have hol' := Heap.get?_push_of_some { cls := .type "set", dict := none, data := .set #[] 0 (.fresh 0 0 (!w.params.followText "set-order")) } hol
        have e1 := F.sub_list_set
        have e2 := F.sub_list_frozenset
        have e3 : (Value.type "list" == Value.type "dict") = false := by decide
        have hl1 := hl.push { cls := .type "set", dict := none, data := .set #[] 0 (.fresh 0 0 (!w.params.followText "set-order")) }
        unfold Builtin.«set.__init__» noKeywords Builtin.Frozenset.updateFrom
        generalize hPI : pyIter = PI
        wp_walk
        subst hPI
        refine wpAny_pyIter_list hl1 ?_
        refine wpAny_bind (wpAny_runValue ?_)
        have lS : l < s.heap.objs.size := Heap.lt_size hol
        have sz : (s.heap.push { cls := .type "set", dict := none, data := .set #[] 0 (.fresh 0 0 (!w.params.followText "set-order")) }).objs.size = s.heap.objs.size + 1 := Heap.size_push _ _
        have nI : l ≠ (s.heap.push { cls := .type "set", dict := none, data := .set #[] 0 (.fresh 0 0 (!w.params.followText "set-order")) }).objs.size := by rw [sz]; exact Nat.ne_of_lt (Nat.lt_succ_of_lt lS)
        have nf : s.heap.objs.size ∉ [(s.heap.push { cls := .type "set", dict := none, data := .set #[] 0 (.fresh 0 0 (!w.params.followText "set-order")) }).objs.size, l] := by
          rw [sz]; simp only [List.mem_cons, List.not_mem_nil, or_false, not_or]
          exact ⟨Nat.ne_of_lt (Nat.lt_succ_self _), Nat.ne_of_gt lS⟩
        refine set_update_ints ((Walks.list (by simp [hh]) _ l nI items).toS) s.heap.objs.size nf ks hn hb hv (items.size - 0) 0 _ (by omega) (Nat.zero_le _) ⟨⟨_, Heap.get?_push_size _ rfl, rfl, rfl⟩, (hl1.push _)⟩ ?_ ?_
        · exact ⟨0, Nat.le_refl _, setR_new_at (Heap.get?_push_of_some { cls := .type "list_iterator", data := .fields #[.ref l, .int 0 0] } hS)⟩
        · intro s' c hm hc hS'
          obtain ⟨h', g', d', tk', os'⟩ := s'
          have eg : g' = s.gens := hm.gens
          have ed : d' = s.drawn := hm.drawn
          have eo : os' = s.os := hm.os
          subst eg ed eo
          show wpAny _ _ _ _ _ _
          refine wpAny_pure ?_
          show wpAny _ _ (ret Value.none) _ _ _
          refine wpAny_pure ⟨rfl, h', tk', c, rfl, hS', by omega, fun b o e => hm.heap b o ?_ (Heap.get?_push_of_some _ (Heap.get?_push_of_some _ e))⟩
          have hb := Heap.lt_size e
          simp only [List.mem_cons, List.not_mem_nil, or_false, not_or]
          exact ⟨Nat.ne_of_lt hb, by rw [sz]; exact Nat.ne_of_lt (Nat.lt_succ_of_lt hb)⟩
      · cases r₂ with
        | error e => exact hr₂
        | ok fl₂ =>
          cases fl₂ with
          | ret r =>
            obtain ⟨rfl, h', tk, c, rfl, hS', hc, hk'⟩ := hr₂
            repeat (any_goals (first | assumption | wp_step))
            exact h _ _ _ hS' hc hk'
          | _ => exact hr₂.elim
    | _ => exact hr.elim
end
section
variable {X : Cx}
def tSortedSet (K : PySem.W.Frag) (ta : TE) : TE := fun σ H Q => ta σ H fun x H1 => ∃ (l : Addr) (ns : List Int), x = .ref l ∧ SqL K H1 l (ns.map V.int) ∧ ns.length ≤ 60 ∧
  ∀ (us : List Int) (p : Addr), us.Pairwise (· < ·) → (∀ k, k ∈ us ↔ k ∈ ns) → H1 p = none → Q (.ref p) (upd H1 p (.lst (us.map V.int)))
theorem pe_sortedSet {a : Expr} {ta : TE} {p p2 q pos : Pos} (hc : X.calm = true) (hg : Gl X "sorted") (hm : X.mg "sorted" = none) (hg2 : Gl X "set") (hm2 : X.mg "set" = none) (ha : PE X a ta)
    (na : starEach [a] X.env = (false, eval a X.env) :: starEach [] X.env := by rfl) : PE X (.Call (.Name "sorted" p) [.Call (.Name "set" p2) [a] [] q] [] pos) (tSortedSet X.K ta) := by
  refine ⟨fun pins s σ H Q I h => ?_⟩
  refine Call_ (ld_blt I hg hm PyProof.Rows.boot_sorted ?_)
  refine PyProof.Rows.callWith_builtin1 (PyProof.Rows.args_cons ?_ rfl) rfl rfl
  refine Call_ (ld_blt I hg2 hm2 PyProof.Rows.boot_set ?_)
  refine PyProof.Rows.callWith_type1 (PyProof.Rows.args_cons (thn (ha.run pins s σ H _ I h) fun v s1 ⟨x, H1, I1, r1, q1⟩ => PyProof.Rows.args_nil ?_) na) na rfl
  obtain ⟨l, ns, rfl, hq, hle, q1⟩ := q1
  cases r1
  obtain ⟨its, r, pl, hz⟩ := I1.list hq
  have hlen : its.toArray.size = ns.length := by rw [List.size_toArray, ← r.length, List.length_map]
  refine call_set_ints (ks := ns) (I1.ok.hd hc) pl.isList hlen (fun i v hv => ?_) (by unfold scanBound; omega) fun h' tk c hS hcn hk => ?_
  · have hv' : its[i]? = some v := by simpa using hv
    have hi : i < ns.length := by rw [← hlen]; simpa using (List.getElem?_eq_some_iff.mp hv').1
    obtain ⟨u, hu, t, hu'⟩ := r.get (i := i) (x := .int ns[i]) (by simp [hi])
    rw [hv'] at hu
    cases hu
    exact ⟨ns[i], t, List.getElem?_eq_getElem hi, hu'⟩
  refine PyProof.Rows.args_nil ?_
  have I2 : Inv X pins σ H1 { s1 with heap := h', toks := tk } := I1.kept hk
  refine sorted_set hS (I2.ok.hd hc) (by omega) fun s' p out c2 us k g o hp hgt hi hs hm' hl => ?_
  have hlen : (us.map V.int).length ≤ sizeLine := by rw [List.length_map, hl, sizeLine_eq]; omega
  have hn : H1 p = none := I2.hok.fresh hp
  have k1 : ∀ b u, s1.heap.get? b = some u → s'.heap.get? b = some u := fun b u e => k b u (hk b u e)
  have hp1 : s1.heap.objs.size ≤ p := Nat.le_trans (Nat.le_of_lt hS.lt) hp
  have J : Inv X pins σ (upd H1 p (.lst (us.map V.int))) { s1 with heap := s'.heap, gens := s'.gens, drawn := s'.drawn, toks := s'.toks } :=
    I1.call (ch := []) (Un.laid k1 hp1 hn) (I1.hok.laid k1 hp1 ⟨hlen, out.toList, c2, vals_of_ints hi, hgt⟩) (by rw [g]; exact I2.bare) (fun _ z => nomatch z)
  have e : s' = { s1 with heap := s'.heap, gens := s'.gens, drawn := s'.drawn, toks := s'.toks } := by
    cases s'
    cases s1
    cases o
    rfl
  rw [e]
  exact ⟨.ref p, _, J, rfl, q1 us p hs (fun k => by rw [hm' k]; simp) hn⟩
theorem reps_ints {K : PySem.W.Frag} {T : Tp} {M : Addr → Prop} {H : Hp} : ∀ us : List Int, Reps K T M H (us.map V.int) (us.map D.int)
  | [] => .nil
  | u :: us => .cons (.int u) (reps_ints us)
theorem pf_sortedSet {a : Expr} {f : FE} {p p2 q pos : Pos} (hc : X.calm = true) (hg : Gl X "sorted") (hm : X.mg "sorted" = none) (hg2 : Gl X "set") (hm2 : X.mg "set" = none) (ha : PB X a f)
    (na : starEach [a] X.env = (false, eval a X.env) :: starEach [] X.env := by rfl) : PF X (.Call (.Name "sorted" p) [.Call (.Name "set" p2) [a] [] q] [] pos) (wSortedSet f) :=
  (pe_sortedSet hc hg hm hg2 hm2 ha na).imp fun σ H Q ⟨g, M, env, Qd, s, q, k⟩ => ⟨g, M, env, _, s, q, fun d v H1 q1 g1 r1 => by
    split at q1
    · rename_i a
      obtain ⟨l, vs, ex, hl, rs⟩ := r1.lst
      subst ex
      obtain ⟨hle, ns, hn, q1⟩ := q1
      have hlen := rs.length
      have e := ints_reps rs hn
      subst e
      refine ⟨l, ns, rfl, .of hl, (by rw [List.length_map] at hlen; omega), fun us p hu hm hp => ?_⟩
      have s1 := s.grow g1
      have g2 : Grow X.K g.T M H1 (upd H1 p (.lst (us.map V.int))) := .new s1.wd hp
      exact k _ _ _ (q1 us hu hm) (g1.trans g2) (FRep.back s.wd g1 (FRep.lst s1.wd hp (reps_ints us)))
    · exact q1.elim⟩
end
/-! ### chains of three -/
section
variable {X : Cx} {a b c d : Expr} {ta tb tc td : TE} {pos : Pos}
def tChain3 (r r' r2 : R2) (ta tb tc td : TE) : TE := fun σ H Q => ta σ H fun x H1 => tb σ H1 fun y H2 => r x y H2 fun z H3 => ∃ k, z = .bl k ∧
  (if k = true then tc σ H3 fun w H4 => r' y w H4 fun z2 H5 => ∃ k2, z2 = .bl k2 ∧ (if k2 = true then td σ H5 fun v H6 => r2 w v H6 Q else Q (.bl false) H5) else Q (.bl false) H3)
theorem pt_chain3 {op op' op2 : CmpOp} {r r' r2 : R2} (ho : OpR X (compareOp op) r) (ho' : OpR X (compareOp op') r') (ho2 : OpR X (compareOp op2) r2) (ha : PE X a ta) (hb : PE X b tb) (hc : PE X c tc) (hd : PE X d td)
    (hm : lastMarks [op, op', op2] [b, c, d] = false := by with_unfolding_all rfl) : PT X (.Compare a [op, op', op2] [b, c, d] pos) (tTest (tChain3 r r' r2 ta tb tc td)) := by
  refine ⟨fun pins s σ H Q I h => ?_⟩
  refine isTrue_chain (thn (ha.run pins s σ H _ I h) fun v s1 ⟨x, H1, I1, r1, q1⟩ => test_link (thn (hb.run pins s1 σ H1 _ I1 q1) fun u s2 ⟨y, H2, I2, r2, q2⟩ =>
    thn (ho pins s2 σ H2 x y v u _ I2 r1 r2 q2) fun d s3 ⟨z, H3, I3, r3, k, e, q3⟩ => ?_)) hm
  subst e
  cases r3
  refine wpAny_truthy_bool ?_
  cases k with
  | false =>
    obtain ⟨k', e', q'⟩ := q3
    cases e'
    exact ite_ff ⟨H3, I3, q'⟩
  | true =>
    refine ite_tt (test_link (thn (hc.run pins s3 σ H3 _ I3 q3) fun w' s4 ⟨z', H4, I4, r4, q4⟩ => thn (ho' pins s4 σ H4 y z' u w' _ I4 r2 r4 q4) fun d' s5 ⟨z2, H5, I5, r5, k2, e2, q5⟩ => ?_))
    subst e2
    cases r5
    refine wpAny_truthy_bool ?_
    cases k2 with
    | false =>
      obtain ⟨k', e', q'⟩ := q5
      cases e'
      exact ite_ff ⟨H5, I5, q'⟩
    | true =>
      refine ite_tt (test_last (thn (hd.run pins s5 σ H5 _ I5 q5) fun w2 s6 ⟨z3, H6, I6, r6, q6⟩ => thn (ho2 pins s6 σ H6 z' z3 w' w2 _ I6 r4 r6 q6) fun d2 s7 ⟨z4, H7, I7, r7, k3, e3, q7⟩ => ?_))
      subst e3
      cases r7
      exact wpAny_truthy_bool ⟨H7, I7, q7⟩
variable {fa fb fc fd : FE}
theorem tChain3_of {K : PySem.W.Frag} {r r' r2 : R2} {φ ψ χ : Op2} (hφ : OpA K r φ) (hψ : OpA K r' ψ) (hχ : OpA K r2 χ) (σ : L2.St) (H : Hp) (Q : VK) (h : tP K (wChain3 φ ψ χ fa fb fc fd) σ H Q) : tChain3 r r' r2 (tB K fa) (tB K fb) (tB K fc) (tB K fd) σ H Q := by
  obtain ⟨g, M, env, Qd, s, q, k⟩ := h
  refine ⟨g, M, env, _, s, q, fun dx x H1 q1 g1 r1 => ?_⟩
  have s1 := s.grow g1
  refine ⟨g, M, env, _, s1, q1, fun dy y H2 q2 g2 r2 => ?_⟩
  have s2 := s1.grow g2
  refine hφ g.T M H2 x y dx dy _ _ s2.wd (s1.wd.brep g2 r1) r2 q2 fun d v H3 q3 g3 r3 => ?_
  obtain ⟨c, e, q4⟩ := dBool_of r3 q3
  refine ⟨c, e, ?_⟩
  have s3 := s2.grow g3
  split at q4
  · rename_i h
    rw [if_pos h]
    refine ⟨g, M, env, _, s3, q4, fun dz z H4 q5 g4 r4 => ?_⟩
    have s4 := s3.grow g4
    refine hψ g.T M H4 y z dy dz _ _ s4.wd (s3.wd.brep g4 (s2.wd.brep g3 r2)) r4 q5 fun d v H5 q6 g5 r5 => ?_
    obtain ⟨c2, e2, q7⟩ := dBool_of r5 q6
    refine ⟨c2, e2, ?_⟩
    have s5 := s4.grow g5
    split at q7
    · rename_i h2
      rw [if_pos h2]
      refine ⟨g, M, env, _, s5, q7, fun dw w H6 q8 g6 r6 => ?_⟩
      have s6 := s5.grow g6
      exact hχ g.T M H6 z w dz dw Q Qd s6.wd (s5.wd.brep g6 (s4.wd.brep g5 r4)) r6 q8 fun d v H' a b c => k d v H' a ((((((g1.trans g2).trans g3).trans g4).trans g5).trans g6).trans b) c
    · rename_i h2
      rw [if_neg h2]
      exact k _ _ _ q7 ((((g1.trans g2).trans g3).trans g4).trans g5) (.bl _)
  · rename_i h
    rw [if_neg h]
    exact k _ _ _ q4 ((g1.trans g2).trans g3) (.bl _)
theorem ppt_chain3 {op op' op2 : CmpOp} {r r' r2 : R2} {φ ψ χ : Op2} (ho : OpR X (compareOp op) r) (ho' : OpR X (compareOp op') r') (ho2 : OpR X (compareOp op2) r2) (hφ : OpA X.K r φ) (hψ : OpA X.K r' ψ) (hχ : OpA X.K r2 χ) (ha : PB X a fa) (hb : PB X b fb) (hc : PB X c fc) (hd : PB X d fd)
    (hm : lastMarks [op, op', op2] [b, c, d] = false := by with_unfolding_all rfl) : PPT X (.Compare a [op, op', op2] [b, c, d] pos) (wTest (wChain3 φ ψ χ fa fb fc fd)) :=
  (pt_chain3 ho ho' ho2 ha hb hc hd hm).imp fun σ H Q h => tTest_of (fun σ H Q h => tChain3_of hφ hψ hχ σ H Q h) σ H Q h
end
end Pl
end

section
set_option Elab.async false
set_option linter.all false
set_option maxRecDepth 100000
set_option maxHeartbeats 4000000
set_option autoImplicit false
namespace Pl
open PySem PySem.Spec PyProof.Rows L2
/-! ### defs that raise -/
abbrev exV (K : PySem.W.Frag) (c : Str) : Value := .ref (He.ga K c)
structure ExF (K : PySem.W.Frag) (mg : Str → Option Value) (c : Str) : Prop where
  q : PySem.W.excIn K (He.ga K c) He.veBase "ValueError.__new__" = true
  kp : PySem.W.keepIn K (exV K c) = true
  sub : PySem.W.subIn K (exV K c) (.type "BaseException") = some true
  ty : PySem.W.typeIn K (exV K c) = some (.type "type")
  m : PySem.W.exmOne K (exV K c) (exV K c) = some true
  gl : mg c = some (exV K c)
/-- c() makes an exception -/
theorem pmk0 {X : Cx} {c : Str} {p pos : Pos} (F : ExF X.K X.mg c) (hg : Gl X c) (hdb : (c == ("__debug__" : Str)) = false := by decide) : PMk X (.Call (.Name c p) [] [] pos) (fun _ H Q => Q (exV X.K c) none H) := by
  intro pins s σ H Q I h
  refine wpAny_Call_Name_kw (ld_glob I hg F.gl ?_ hdb)
  refine PySem.W.callWith_K0 I.kIn F.kp ?_
  show wpAny _ _ (call (.ref _) []) _ _ _
  obtain ⟨bm, N, nm, qn, bs, hdct, sn, sub, ab, col, dd, k0, k1, k2, k3, k5, mN, hC, hN, hni, T⟩ := exc_obj I.kIn F.q
  refine wpAny_call_exc_subT _root_.PySem.F.excBase_ValueError T hC hN hni (fun h' e hm => ?_) (Nat.zero_le _)
  exact mk_of I hm (raises_own F.sub F.ty) h (I.hok.gone hm.new)
/-- what a def promises that raises c -/
def spX (K : PySem.W.Frag) (c : Str) (ψ : List D → Prop) : Sp := fun vs H _ E => ∃ T M ds, Wd K T M H ∧ Reps K T M H vs ds ∧ ψ ds ∧ ∀ H', Grow K T M H H' → E (exV K c) none H'
structure KnX (P : Program) (w : World) (K : PySem.W.Frag) (mg : Str → Option Value) (base : Heap) (k : Nat) (x c : Str) (ψ : List D → Prop) : Prop where
  ex : ∃ (f : Addr) (fd : FuncData) (ps : List Str), FnOk P w K mg base (CX P w) k f fd ps (spX K c ψ) ∧ mg x = some (.ref f) ∧ PySem.W.keepIn K (.ref f) = true ∧ Binds K fd ps []
structure DfX (X : Cx) (x c : Str) (ψ : List D → Prop) : Prop where
  ex : ∃ (k : Nat) (f : Addr) (fd : FuncData) (ps : List Str), FnOk X.prog X.w X.K X.mg X.base (CX X.prog X.w) k f fd ps (spX X.K c ψ) ∧ Room k X.A ∧ X.mg x = some (.ref f) ∧ PySem.W.keepIn X.K (.ref f) = true ∧ Binds X.K fd ps []
theorem KnX.df {k j : Nat} {x c : Str} {ψ : List D → Prop} {X : Cx} (h : KnX X.prog X.w X.K X.mg X.base k x c ψ) (hr : Room j X.A) (hk : k ≤ j) : DfX X x c ψ := by
  obtain ⟨f, fd, ps, F, hm, kp, b⟩ := h.ex
  exact ⟨k, f, fd, ps, F, hr.mono hk, hm, kp, b⟩
def tPX (K : PySem.W.Frag) (c : Str) (W : WX) (F : FX) : TS := fun _ σ H => ∃ g M env, SR K g M σ H env ∧ F env ∧ ∀ H', Grow K g.T g.M0 g.H0 H' → ∀ σ', W (exV K c) none σ' H'
def tEX (K : PySem.W.Frag) (c : Str) (W : WX) (F : FX) : TE := fun σ H _ => ∃ g M env, SR K g M σ H env ∧ F env ∧ ∀ H', Grow K g.T g.M0 g.H0 H' → ∀ σ', W (exV K c) none σ' H'
section
variable {X : Cx} {c : Str} {W : WX} {e : Expr} {es : List Expr} {fs : FEs} {x : Str} {ψ : List D → Prop} {F : FX} {G : FS} {t : FT} {pos p p2 : Pos} {st : Stmt} {rest : List Stmt}
theorem SR.out {K : PySem.W.Frag} {g : Gh} {M : Addr → Prop} {σ : L2.St} {H H' : Hp} {env : AEnv} (s : SR K g M σ H env) (b : Grow K g.T M H H') : Grow K g.T g.M0 g.H0 H' := (s.grow b).grow0
theorem px_call (Fx : DfX X x c ψ) (tk : Takes X W) (hg : Gl X x) (ha : PPA X (e :: es) fs)
    (hdb : (x == ("__debug__" : Str)) = false := by decide) (he : starEach (e :: es) X.env = (false, eval e X.env) :: starEach es X.env := by rfl) (hpl : (backTo pos (starEach es X.env)).any (·.1) = false := by rfl) :
    PE X (.Call (.Name x p) (e :: es) [] pos) (tEX X.K c W (fun env => fs env ψ)) := by
  obtain ⟨k, f, fd, ps, Ff, hr, hm, hk, hb⟩ := Fx.ex
  refine (pe_call (E := fun cls d H => ∀ σ, W cls d σ H) Ff hr hg hm hk hb .nil (passes_call tk fun cls d σ H h => h σ) ha hdb he hpl).imp fun σ H Q ⟨g, M, env, s, q, k⟩ => ⟨g, M, env, _, s, q, fun ds vs H1 q1 g1 r1 => ?_⟩
  have s1 := s.grow g1
  exact ⟨g.T, M, ds, s1.wd, by rw [List.append_nil]; exact r1, q1, fun H' gw => k H' (s1.out gw)⟩
theorem px_ret (h : PE X e (tEX X.K c W F)) : PSs X (.Return (some e) pos :: rest) (tPX X.K c W F) :=
  (pss_cons (ps_ret h) pss_never).imp fun D σ H q => q
theorem px_set {i : Nat} {y : Str} {py : Pos} (hN : X.N.Nodup) (hi : X.N[i]? = some y) (hx : Loc X.env.scope y) (h : PE X e (tEX X.K c W F)) (hs : swapsWith e (some (.Name y py)) pos.line X.env = pure false := by rfl)
    (hf : X.fn y = true ∨ X.env.scope.names.lookup y = some .local := by first | exact .inl rfl | exact .inr rfl | assumption) : PSs X (.Assign [.Name y py] e pos :: rest) (tPX X.K c W F) :=
  (pss_cons (ps_set hN hi hx h hs hf) pss_never).imp fun D σ H q => q
theorem px_cons (h1 : PPS X st G) (h2 : PSs X rest (tPX X.K c W F)) : PSs X (st :: rest) (tPX X.K c W (fun env => G { nx := F, rt := fun _ => False } env)) :=
  (pss_cons h1 h2).imp fun D σ H ⟨g, M, env, s, q, k⟩ => ⟨g, M, env, _, s, q, ⟨fun env' M' σ' H' a b => ⟨g, M', env', b, a, k⟩, fun _ _ _ z => z.elim, fun _ _ _ _ z => z.elim, fun _ _ _ _ z => z.elim⟩⟩
/-- if t: raise c() -/
theorem px_if {pos3 : Pos} (hc : X.calm = true) (tk : Takes X W) (E : ExF X.K X.mg c) (hg : Gl X c) (ht : PPT X e t) (hdb : (c == ("__debug__" : Str)) = false := by decide) : PSs X (.If e [.Raise (some (.Call (.Name c p) [] [] p2)) none pos3] [] pos :: rest) (tPX X.K c W (fun env => t env fun b => b = true)) :=
  (pss_cons (ps_if ht (pss_one (ps_raise hc tk (pmk0 E hg hdb))) pss_nil) pss_never).imp fun D σ H ⟨g, M, env, s, q, k⟩ => ⟨g, M, env, _, s, q, fun b H1 q1 g1 => by
    subst q1
    rw [if_pos rfl]
    exact k H1 (s.out g1) σ⟩
end
section
variable {P : Program} {w : World} {K : PySem.W.Frag} {mg : Str → Option Value} {base : Heap}
abbrev cxX (P : Program) (w : World) (K : PySem.W.Frag) (mg : Str → Option Value) (base : Heap) (N : List Str) (x : Str) (sc : Scope) (f : Addr) (cdv : Value) (A : Around) (outer : List Env) (s : Shared) (H : Hp) (E : XK) : Cx := cxOf (CX P w) P w K mg base N x sc f cdv A outer s H E
theorem takes_X {N : List Str} {x : Str} {sc : Scope} {f : Addr} {cdv : Value} {A : Around} {outer : List Env} {s : Shared} {H : Hp} {E : XK} : Takes (cxX P w K mg base N x sc f cdv A outer s H E) (fun cls d _ H' => E cls d H') := takes_of rfl rfl rfl rfl
theorem knx_of {x c : Str} {st : Stmt} {N ps : List Str} {k : Nat} {ψ : List D → Prop} {Fb : FX} (F : Fnx K mg x st) (S : FnScope N ps (defScope st))
    (hb : ∀ (kV doc pm : Value) (an : Option Addr) (cdv ct : Value) (us : List Value), us.length = ps.length → bindArgs (PySem.W.fnOf x x (defArgs st) (defBody st) (defScope st) .none kV doc pm an cdv ct) ⟨us, []⟩ = pure (ps.zip us))
    (hlen : ∀ ds, ψ ds → ds.length = ps.length)
    (hbody : ∀ (f : Addr) (cdv : Value) (A : Around) (outer : List Env) (s : Shared) (H : Hp) (E : XK), Room k (A.deeper (envOfC x (defScope st) s.heap.objs.size f cdv)) → PSs (cxX P w K mg base N x (defScope st) f cdv A outer s H E) (defBody st) (tPX K c (fun cls d _ H' => E cls d H') Fb))
    (hread : ∀ ds, ψ ds → Fb (startE N.length ds)) : KnX P w K mg base (k + 1) x c ψ := by
  obtain ⟨f, fd, F, hm⟩ := F.ex
  refine ⟨f, fd, ps, F.ok S ?_ ?_, hm, F.kp, F.bindsN hb⟩
  · rintro vs H Q E ⟨T, M, ds, wd, r, q, _⟩
    rw [r.length]
    exact hlen _ q
  · rintro cdv A outer s H vs Q E hr ⟨T, M, ds, wd, r, q, kk⟩
    exact ⟨_, hbody f cdv A outer s H E hr, ⟨T, M, H, wd.mT, wd.md⟩, M, _, sr_start wd r, hread ds q, fun H' gw σ' => kk H' gw⟩
abbrev cx0 (P : Program) (w : World) (K : PySem.W.Frag) (mg : Str → Option Value) (base : Heap) (N : List Str) (x : Str) (sc : Scope) (f : Addr) (cdv : Value) (A : Around) (outer : List Env) (s : Shared) (H : Hp) (E : XK) : Cx := cxOf CX0 P w K mg base N x sc f cdv A outer s H E
def tNX (K : PySem.W.Frag) (F : FX) : TS := fun D σ H => ∃ g M env, SR K g M σ H env ∧ F env ∧ ∀ H', Grow K g.T g.M0 g.H0 H' → D.rt .non H'
theorem kn_try {x : Str} {st : Stmt} {N ps : List Str} {k : Nat} {ψ : List D → Prop} {φ : Fn} {Fb : FS} {Fx : FX} (F : Fnx K mg x st) (S : FnScope N ps (defScope st))
    (hb : ∀ (kV doc pm : Value) (an : Option Addr) (cdv ct : Value) (us : List Value), us.length = ps.length → bindArgs (PySem.W.fnOf x x (defArgs st) (defBody st) (defScope st) .none kV doc pm an cdv ct) ⟨us, []⟩ = pure (ps.zip us))
    (hlen : ∀ ds Q, orNone ψ φ ds Q → ds.length = ps.length)
    (hn : ∀ (f : Addr) (cdv : Value) (A : Around) (outer : List Env) (s : Shared) (H : Hp) (E : XK), Room k (A.deeper (envOfC x (defScope st) s.heap.objs.size f cdv)) → PPSs (cxN P w K mg base N x (defScope st) f cdv A outer s H E) (defBody st) Fb)
    (hx : ∀ (f : Addr) (cdv : Value) (A : Around) (outer : List Env) (s : Shared) (H : Hp) (E : XK), Room k (A.deeper (envOfC x (defScope st) s.heap.objs.size f cdv)) → PSs (cx0 P w K mg base N x (defScope st) f cdv A outer s H E) (defBody st) (tNX K Fx))
    (rn : ∀ ds Q, φ ds Q → Fb (AEnds.fn Q) (startE N.length ds)) (rx : ∀ ds, ψ ds → Fx (startE N.length ds)) : Kn P w K mg base (k + 1) x (spP K (orNone ψ φ)) := by
  obtain ⟨f, fd, F, hm⟩ := F.ex
  refine ⟨f, fd, ps, F.ok S ?_ ?_, hm, F.kp, F.bindsN hb⟩
  · rintro vs H Q E ⟨T, M, ds, Qd, wd, r, q, _⟩
    rw [r.length]
    exact hlen _ _ q
  · rintro cdv A outer s H vs Q E hr ⟨T, M, ds, Qd, wd, r, q, kk⟩
    rcases q with ⟨q, q2⟩ | q
    · exact ⟨_, hx f cdv A outer s H E hr, ⟨T, M, H, wd.mT, wd.md⟩, M, _, sr_start wd r, rx ds q, fun H' gw => kk _ _ _ q2 gw .non⟩
    · refine ⟨_, PSs.nox (hn f cdv A outer s H E hr), ⟨T, M, H, wd.mT, wd.md⟩, M, _, { nx := fun _ => Qd .non, rt := Qd }, sr_start wd r, rn ds Qd q, ?_⟩
      exact ⟨fun env M' σ H' a b => kk _ _ _ a b.grow0 .non, fun d v H' a b c => kk d v H' a b c, fun _ _ _ _ z => z.elim, fun _ _ _ _ z => z.elim⟩
end
section
variable {X : Cx} {c : Str} {F : FX} {G : FS} {body : List Stmt} {h₀ : ExceptHandler} {hs : List ExceptHandler} {j : Nat} {pos pr ph pp p2 : Pos}
theorem pp_try (hb : PPSs X.nox body G) : PPS X (.Try body (h₀ :: hs) [] [] pos) G := ps_try_thru0 hb
theorem px_try (ok : ExF X.K X.mg c) (hs : X.stack = X.env :: X.outer) (hf : X.env.frame = some X.env.locals) (hg : Gl X c) (hb : ∀ (W : WX) (pn : List (Addr × Obj)) (xe : Value → Shared → Prop), Takes (X.tr pn xe) W → PSs (X.tr pn xe) body (tPX X.K c W F)) (hdb : (c == ("__debug__" : Str)) = false := by decide) :
    PSs X [.Try body [.ExceptHandler (some (.Name c ph)) none [.Return (some (.Constant .none j p2)) pr] pp] [] [] pos] (tNX X.K F) := by
  refine (pss_one (ps_try_only (c := exV X.K c) (Wout := fun _ _ _ _ => False) (tb := fun W => tPX X.K c W F) (ts := fun _ _ _ => tRet (tC .non)) hs hf ⟨hg, hdb, .inl ok.gl⟩ takes_none5 (fun W pn xe tk _ => hb W pn xe tk) fun a oe cls d pn _ _ => pss_one (ps_ret pe_non))).imp fun D σ H ⟨g, M, env, s, q, k⟩ => ?_
  refine ⟨g, M, env, s, q, fun H' gw σ' => ⟨true, ok.m, fun _ a _ => ?_, fun z => by cases z⟩⟩
  exact k H' gw
end
/-! ### what the hook says of exceptions -/
def kExc (x : Str) : KB := fun K => (He.Fa.exc x).ok K && ((He.Fa.exm x x true).ok K && (He.Fa.glo x).ok K)
theorem exf_of {K : PySem.W.Frag} {h : Heap} {mg : Str → Option Value} {bs : List KB} {fn : List He.DefD} (X : K.In h) (G : h.Ns mainGlobals mg) (c : SaysB bs fn K) (j : Nat) {x : Str} (e2 : bs[j]? = some (kExc x) := by rfl) : ExF K mg x := by
  obtain ⟨h1, h2⟩ := He.ba (show ((He.Fa.exc x).ok K && ((He.Fa.exm x x true).ok K && (He.Fa.glo x).ok K)) = true from c.fact j e2)
  obtain ⟨h2, h3⟩ := He.ba h2
  obtain ⟨a, b, c, d⟩ := He.exc_ok h1
  exact ⟨a, b, c, d, He.exm_ok h2, He.glo_ok X G h3⟩
/-! ### a bool minus a bool -/
theorem sub_bb {a b : Bool} : Gives (Builtin.«int.__sub__» ⟨[.bool a, .bool b], []⟩) (.int ((if a = true then (1 : Int) else 0) - (if b = true then (1 : Int) else 0))) :=
  .of_wp fun M A E s Q h => by obtain ⟨hp, g, d, tk, os⟩ := s; wp_walk; exact ⟨_, rfl, h⟩
def rSubB : R2 := fun x y H Q => ∃ a b, x = .bl a ∧ y = .bl b ∧ Q (.int ((if a = true then (1 : Int) else 0) - (if b = true then (1 : Int) else 0))) H
theorem op_subB {X : Cx} : OpR X (binaryOp .Sub) rSubB := by
  intro pins s σ H x y v u Q I rx ry h
  obtain ⟨a, b, rfl, rfl, q⟩ := h
  cases rx
  cases ry
  exact binaryOp_gives (op := .Sub) (T := "bool") (PySem.typeIs_bool s a) (PySem.typeIs_bool s b) PySem.F.fills_bool_sub PySem.F.slot_bool_sub PySem.F.entry_int_sub (PySem.F.args_int_sub_2 _ _) sub_bb trivial ⟨.int ((if a = true then (1 : Int) else 0) - (if b = true then (1 : Int) else 0)), H, I.tok _, ⟨_, rfl⟩, q⟩
theorem a_subB {K : PySem.W.Frag} : OpA K rSubB dSubB := by
  intro T M H x y dx dy Q Qd w r1 r2 q k
  unfold dSubB at q
  split at q
  · exact ⟨_, _, r1.bl, r2.bl, k _ _ _ q (.refl w) (.int _)⟩
  · exact q.elim
end Pl
end

section
set_option linter.all false
set_option maxRecDepth 100000
set_option autoImplicit false
/-! fractions as data, sizes; no program -/
namespace Pl
open PySem
theorem ifF {c : Prop} [Decidable c] {A B : Prop} (h : ¬ c) (q : B) : if c then A else B := by rw [if_neg h]; exact q
theorem ifT {c : Prop} [Decidable c] {A B : Prop} (h : c) (q : A) : if c then A else B := by rw [if_pos h]; exact q
/-- a fraction as data -/
def fr (q : Rat) : D := .tup [.int q.num, .int q.den]
theorem fr_inj {a b : Rat} : fr a = fr b ↔ a = b := by
  constructor
  · intro h
    simp only [fr, D.tup.injEq, List.cons.injEq, D.int.injEq, and_true, Int.natCast_inj] at h
    exact Rat.ext h.1 h.2
  · rintro rfl; rfl
theorem fr_def (a : Rat) : D.tup [.int a.num, .int a.den] = fr a := rfl
theorem fr_neg (a : Rat) : D.tup [.int (-a.num), .int a.den] = fr (-a) := by simp [fr]
theorem fr_neg' (a : Rat) : D.tup [.int (0 - a.num), .int a.den] = fr (-a) := by simp [fr]
theorem fr_int (n : Int) : D.tup [.int n, .int 1] = fr (n : Rat) := by simp [fr]
theorem ix0 (a : Rat) (Q : D → Prop) : dIx (fr a) (.int 0) Q = Q (.int a.num) := by simp [dIx, fr, ixD]
theorem ix1 (a : Rat) (Q : D → Prop) : dIx (fr a) (.int 1) Q = Q (.int a.den) := by simp [dIx, fr, ixD]
theorem deq_fr (a b : Rat) : deq (fr a) (fr b) = decide (a = b) := by
  simp only [fr, deq, deqs, Bool.and_true]
  by_cases h : a = b
  · subst h; simp
  · rw [decide_eq_false h]
    simp only [Bool.and_eq_false_iff, beq_eq_false_iff_ne, ne_eq]
    by_cases h1 : a.num = b.num
    · right
      intro h2
      exact h (Rat.ext h1 (by exact_mod_cast h2))
    · exact .inl h1
theorem plain_fr (n : Nat) (a : Rat) : plain (n + 1) (fr a) = true := by simp [fr, plain, plains]
theorem plain_fr20 (a : Rat) : plain 20 (fr a) = true := plain_fr 19 a
/-! ### texts -/
theorem okStr_lit (t : String) : okStr (Str.ofString t) = true := by
  unfold okStr Str.ofString
  rw [cpsOfBytes_string]
  simp only [List.all_toArray, List.all_eq_true, List.mem_map, decide_eq_true_eq, forall_exists_index, and_imp, forall_apply_eq_imp_iff₂]
  intro c _
  have h := c.valid
  have ht : c.toNat = c.val.toNat := rfl
  simp only [UInt32.isValidChar, Nat.isValidChar] at h
  omega
theorem ofString_inj (s t : String) : (Str.ofString s = Str.ofString t) = (s = t) := by
  apply propext
  constructor
  · intro h
    unfold Str.ofString at h
    rw [cpsOfBytes_string, cpsOfBytes_string] at h
    have h1 : s.toList.map Char.toNat = t.toList.map Char.toNat := by simpa using h
    have h2 : s.toList = t.toList := by
      apply (List.map_inj_right (f := Char.toNat) ?_).mp h1
      intro a b e
      exact Char.ext (UInt32.toNat_inj.mp e)
    exact String.toList_inj.mp h2
  · rintro rfl; rfl
theorem beq_lit (s t : String) : (Str.ofString s == Str.ofString t) = decide (s = t) := by
  by_cases h : s = t
  · subst h; simp
  · rw [decide_eq_false h, beq_eq_false_iff_ne, Ne, ofString_inj]; exact h
/-! ### equality, by kinds -/
theorem isNon_non : isNon .non = true := rfl
theorem isNon_bl {b : Bool} : isNon (.bl b) = false := rfl
theorem isNon_int {b : Int} : isNon (.int b) = false := rfl
theorem isNon_str {b : Str} : isNon (.str b) = false := rfl
theorem isNon_tup {b : List D} : isNon (.tup b) = false := rfl
theorem isNon_lst {b : List D} : isNon (.lst b) = false := rfl
theorem isNon_fr {b : Rat} : isNon (fr b) = false := rfl
theorem deq_non_non  : deq .non .non = true := by simp [deq]
theorem deq_non_bl {b : Bool} : deq .non (.bl b) = false := by simp [deq]
theorem deq_non_int {j : Int} : deq .non (.int j) = false := by simp [deq]
theorem deq_non_str {t : Str} : deq .non (.str t) = false := by simp [deq]
theorem deq_non_tup {ys : List D} : deq .non (.tup ys) = false := by simp [deq]
theorem deq_non_lst {ys : List D} : deq .non (.lst ys) = false := by simp [deq]
theorem deq_bl_non {a : Bool} : deq (.bl a) .non = false := by simp [deq]
theorem deq_bl_bl {a : Bool} {b : Bool} : deq (.bl a) (.bl b) = (a == b) := by simp [deq]
theorem deq_bl_str {a : Bool} {t : Str} : deq (.bl a) (.str t) = false := by simp [deq]
theorem deq_bl_tup {a : Bool} {ys : List D} : deq (.bl a) (.tup ys) = false := by simp [deq]
theorem deq_bl_lst {a : Bool} {ys : List D} : deq (.bl a) (.lst ys) = false := by simp [deq]
theorem deq_int_non {i : Int} : deq (.int i) .non = false := by simp [deq]
theorem deq_int_int {i : Int} {j : Int} : deq (.int i) (.int j) = decide (i = j) := by by_cases h : i = j <;> simp [deq, h]
theorem deq_int_str {i : Int} {t : Str} : deq (.int i) (.str t) = false := by simp [deq]
theorem deq_int_tup {i : Int} {ys : List D} : deq (.int i) (.tup ys) = false := by simp [deq]
theorem deq_int_lst {i : Int} {ys : List D} : deq (.int i) (.lst ys) = false := by simp [deq]
theorem deq_str_non {s : Str} : deq (.str s) .non = false := by simp [deq]
theorem deq_str_bl {b : Bool} {s : Str} : deq (.str s) (.bl b) = false := by simp [deq]
theorem deq_str_int {j : Int} {s : Str} : deq (.str s) (.int j) = false := by simp [deq]
theorem deq_str_str {s : Str} {t : Str} : deq (.str s) (.str t) = (s == t) := by simp [deq]
theorem deq_str_tup {s : Str} {ys : List D} : deq (.str s) (.tup ys) = false := by simp [deq]
theorem deq_str_lst {s : Str} {ys : List D} : deq (.str s) (.lst ys) = false := by simp [deq]
theorem deq_tup_non {xs : List D} : deq (.tup xs) .non = false := by simp [deq]
theorem deq_tup_bl {b : Bool} {xs : List D} : deq (.tup xs) (.bl b) = false := by simp [deq]
theorem deq_tup_int {j : Int} {xs : List D} : deq (.tup xs) (.int j) = false := by simp [deq]
theorem deq_tup_str {t : Str} {xs : List D} : deq (.tup xs) (.str t) = false := by simp [deq]
theorem deq_tup_tup {xs : List D} {ys : List D} : deq (.tup xs) (.tup ys) = deqs xs ys := by simp [deq]
theorem deq_tup_lst {xs : List D} {ys : List D} : deq (.tup xs) (.lst ys) = false := by simp [deq]
theorem deq_lst_non {xs : List D} : deq (.lst xs) .non = false := by simp [deq]
theorem deq_lst_bl {b : Bool} {xs : List D} : deq (.lst xs) (.bl b) = false := by simp [deq]
theorem deq_lst_int {j : Int} {xs : List D} : deq (.lst xs) (.int j) = false := by simp [deq]
theorem deq_lst_str {t : Str} {xs : List D} : deq (.lst xs) (.str t) = false := by simp [deq]
theorem deq_lst_tup {xs : List D} {ys : List D} : deq (.lst xs) (.tup ys) = false := by simp [deq]
theorem deq_lst_lst {xs : List D} {ys : List D} : deq (.lst xs) (.lst ys) = deqs xs ys := by simp [deq]
theorem deq_bl_int {a : Bool} {j : Int} : deq (.bl a) (.int j) = ((if a then 1 else 0) == j) := by simp [deq]
theorem deq_int_bl {a : Bool} {j : Int} : deq (.int j) (.bl a) = (j == (if a then 1 else 0)) := by simp [deq]
theorem deqs_nil : deqs [] [] = true := by simp [deqs]
theorem deqs_cons {x y : D} {xs ys : List D} : deqs (x :: xs) (y :: ys) = (deq x y && deqs xs ys) := by simp [deqs]
theorem deqs_nil_cons {y : D} {ys : List D} : deqs [] (y :: ys) = false := by simp [deqs]
theorem deqs_cons_nil {y : D} {ys : List D} : deqs (y :: ys) [] = false := by simp [deqs]
theorem deq_fr_non {a : Rat} : deq (fr a) .non = false := by simp [deq, fr]
theorem deq_non_fr {a : Rat} : deq .non (fr a) = false := by simp [deq, fr]
theorem plain_non {n : Nat} : plain n .non = true := by cases n <;> rfl
theorem plain_bl {n : Nat} {b : Bool} : plain n (.bl b) = true := by cases n <;> rfl
theorem plain_int {n : Nat} {b : Int} : plain n (.int b) = true := by cases n <;> rfl
theorem plain_lit {n : Nat} {t : String} : plain n (.str (Str.ofString t)) = true := by cases n <;> exact okStr_lit t
theorem plain_lst {n : Nat} {xs : List D} : plain (n + 1) (.lst xs) = plains n xs := rfl
theorem plain_tup {n : Nat} {xs : List D} : plain (n + 1) (.tup xs) = plains n xs := rfl
theorem plains_nil {n : Nat} : plains n [] = true := rfl
theorem plains_cons {n : Nat} {x : D} {xs : List D} : plains n (x :: xs) = (plain n x && plains n xs) := rfl
theorem plain_lst20 {xs : List D} : plain 20 (.lst xs) = plains 19 xs := rfl
theorem plain_tup20 {xs : List D} : plain 20 (.tup xs) = plains 19 xs := rfl
theorem plain_lst19 {xs : List D} : plain 19 (.lst xs) = plains 18 xs := rfl
theorem plain_tup19 {xs : List D} : plain 19 (.tup xs) = plains 18 xs := rfl
theorem plain_tup18 {xs : List D} : plain 18 (.tup xs) = plains 17 xs := rfl
theorem plain_fr19 (a : Rat) : plain 19 (fr a) = true := plain_fr 18 a
theorem plain_fr18 (a : Rat) : plain 18 (fr a) = true := plain_fr 17 a
theorem plains_all {n : Nat} {xs : List D} (h : ∀ x ∈ xs, plain n x = true) : plains n xs = true := by
  induction xs with
  | nil => rfl
  | cons x xs ih => rw [plains_cons, h x List.mem_cons_self, ih fun y hy => h y (List.mem_cons_of_mem _ hy)]; rfl
theorem plains_map {α : Type} {n : Nat} {f : α → D} {xs : List α} (h : ∀ x, plain n (f x) = true) : plains n (xs.map f) = true := plains_all fun x hx => by obtain ⟨y, _, rfl⟩ := List.mem_map.mp hx; exact h y
theorem deqs_map {α : Type} [DecidableEq α] {f : α → D} (h : ∀ a b, deq (f a) (f b) = decide (a = b)) : ∀ xs ys : List α, deqs (xs.map f) (ys.map f) = decide (xs = ys)
  | [], [] => by simp [deqs]
  | [], _ :: _ => by simp [deqs]
  | _ :: _, [] => by simp [deqs]
  | x :: xs, y :: ys => by
    rw [List.map_cons, List.map_cons, deqs_cons, h, deqs_map h xs ys]
    by_cases e : x = y <;> simp [e]
theorem deqs_frs (xs ys : List Rat) : deqs (xs.map fr) (ys.map fr) = decide (xs = ys) := deqs_map deq_fr xs ys
theorem plains_frs (n : Nat) (xs : List Rat) : plains (n + 1) (xs.map fr) = true := plains_map fun _ => plain_fr n _
theorem plains_frs19 (xs : List Rat) : plains 19 (xs.map fr) = true := plains_frs 18 xs
/-! ### sizes -/
structure Sz (n : Nat) (q : Rat) : Prop where
  num : q.num.natAbs < 2 ^ n
  den : q.den < 2 ^ n
theorem pow_mono {m n : Nat} (h : m ≤ n) : 2 ^ m ≤ 2 ^ n := Nat.pow_le_pow_right (by decide) h
theorem Sz.mono {m n : Nat} {q : Rat} (h : Sz m q) (hm : m ≤ n) : Sz n q := ⟨Nat.lt_of_lt_of_le h.num (pow_mono hm), Nat.lt_of_lt_of_le h.den (pow_mono hm)⟩
theorem Sz.neg {n : Nat} {q : Rat} (h : Sz n q) : Sz n (-q) := ⟨by simpa using h.num, by simpa using h.den⟩
theorem divInt_sz {n : Nat} {a b : Int} (ha : a.natAbs < 2 ^ n) (hb : b.natAbs < 2 ^ n) (h0 : 1 ≤ n) : Sz n (Rat.divInt a b) := by
  refine ⟨?_, ?_⟩
  · rw [Rat.num_divInt]
    refine Nat.lt_of_le_of_lt ?_ ha
    have h1 : (b.sign * a / (b.gcd a : Int)).natAbs ≤ (b.sign * a).natAbs := Int.natAbs_ediv_le_natAbs _ _
    have h2 : (b.sign * a).natAbs ≤ a.natAbs := by
      rw [Int.natAbs_mul]
      have : b.sign.natAbs ≤ 1 := by
        rcases Int.lt_trichotomy b 0 with h | h | h
        · rw [Int.sign_eq_neg_one_of_neg h]; decide
        · subst h; decide
        · rw [Int.sign_eq_one_of_pos h]; decide
      calc b.sign.natAbs * a.natAbs ≤ 1 * a.natAbs := Nat.mul_le_mul_right _ this
        _ = a.natAbs := Nat.one_mul _
    exact Nat.le_trans h1 h2
  · rw [Rat.den_divInt]
    split
    · exact Nat.lt_of_lt_of_le (by decide : 1 < 2 ^ 1) (pow_mono h0)
    · exact Nat.lt_of_le_of_lt (Nat.div_le_self _ _) hb
theorem natAbs_mul_lt {a b : Int} {m n : Nat} (ha : a.natAbs < 2 ^ m) (hb : b.natAbs < 2 ^ n) : (a * b).natAbs < 2 ^ (m + n) := by
  rw [Int.natAbs_mul, Nat.pow_add]
  exact Nat.mul_lt_mul'' ha hb
theorem add_eq_divInt (a b : Rat) : a + b = Rat.divInt (a.num * b.den + b.num * a.den) (a.den * b.den : Nat) := by rw [Rat.divInt_ofNat]; exact Rat.add_def' a b
theorem sub_eq_divInt (a b : Rat) : a - b = Rat.divInt (a.num * b.den - b.num * a.den) (a.den * b.den : Nat) := by rw [Rat.divInt_ofNat]; exact Rat.sub_def' a b
theorem mul_eq_divInt (a b : Rat) : a * b = Rat.divInt (a.num * b.num) (a.den * b.den : Nat) := by rw [Rat.divInt_ofNat]; exact Rat.mul_def' a b
theorem div_eq_divInt (a b : Rat) : a / b = Rat.divInt (a.num * b.den) (a.den * b.num) := by
  rw [Rat.div_def, Rat.inv_def, ← Rat.num_divInt_den a, Rat.divInt_mul_divInt, Rat.num_divInt_den]
theorem den_lt {n : Nat} {q : Rat} (h : Sz n q) : ((q.den : Int)).natAbs < 2 ^ n := by simpa using h.den
theorem Sz.add {m n : Nat} {a b : Rat} (ha : Sz m a) (hb : Sz n b) : Sz (m + n + 1) (a + b) := by
  rw [add_eq_divInt]
  refine divInt_sz ?_ ?_ (by omega)
  · have h1 := natAbs_mul_lt ha.num (den_lt hb)
    have h2 := natAbs_mul_lt hb.num (den_lt ha)
    have h3 : 2 ^ (m + n + 1) = 2 ^ (m + n) + 2 ^ (n + m) := by rw [Nat.add_comm n m, Nat.pow_succ]; omega
    omega
  · have h1 := natAbs_mul_lt (den_lt ha) (den_lt hb)
    rw [Int.natCast_mul]
    exact Nat.lt_of_lt_of_le h1 (pow_mono (by omega))
theorem Sz.sub {m n : Nat} {a b : Rat} (ha : Sz m a) (hb : Sz n b) : Sz (m + n + 1) (a - b) := by
  rw [Rat.sub_eq_add_neg]; exact ha.add hb.neg
theorem Sz.mul {m n : Nat} {a b : Rat} (ha : Sz m a) (hb : Sz n b) (h0 : 1 ≤ m + n := by omega) : Sz (m + n) (a * b) := by
  rw [mul_eq_divInt]
  refine divInt_sz (natAbs_mul_lt ha.num hb.num) ?_ h0
  have h1 := natAbs_mul_lt (den_lt ha) (den_lt hb)
  rw [Int.natCast_mul]
  exact h1
theorem Sz.div {m n : Nat} {a b : Rat} (ha : Sz m a) (hb : Sz n b) (h0 : 1 ≤ m + n := by omega) : Sz (m + n) (a / b) := by
  rw [div_eq_divInt]
  exact divInt_sz (natAbs_mul_lt ha.num (den_lt hb)) (natAbs_mul_lt (den_lt ha) hb.num) h0
theorem Sz.int {n : Nat} {i : Int} (h : i.natAbs < 2 ^ n) (h0 : 1 ≤ n) : Sz n (i : Rat) := ⟨by simpa using h, by simpa using Nat.lt_of_lt_of_le (by decide : 1 < 2 ^ 1) (pow_mono h0)⟩
theorem Sz.cast (k : Nat) {n : Nat} (h : k < 2 ^ n) (h0 : 1 ≤ n) : Sz n (k : Rat) := ⟨by simpa using h, by simpa using Nat.lt_of_lt_of_le (by decide : 1 < 2 ^ 1) (pow_mono h0)⟩
theorem Sz.zero {n : Nat} (h : 1 ≤ n) : Sz n (0 : Rat) := Sz.mono (m := 1) (Sz.cast 0 (by decide) (by decide)) h
theorem Sz.one {n : Nat} (h : 1 ≤ n) : Sz n (1 : Rat) := Sz.mono (m := 1) (Sz.cast 1 (by decide) (by decide)) h
theorem Sz.half {n : Nat} (h : 3 ≤ n) : Sz n (1 / 2 : Rat) := Sz.mono (m := 3) ((Sz.one (n := 1) (by omega)).div (Sz.cast 2 (n := 2) (by decide) (by decide))) h
/-- a product of numbers below 2 ^ a, 2 ^ b is a good product -/
theorem cm_of {i j : Int} {m n : Nat} (hi : i.natAbs < 2 ^ m) (hj : j.natAbs < 2 ^ n) (h : m + n ≤ 900000) : CM i j := by
  refine .inr (.inr ?_)
  have l1 : i.natAbs.log2 ≤ m := by
    by_cases h0 : i.natAbs = 0
    · rw [h0]; simp
    · exact Nat.le_of_lt ((Nat.log2_lt h0).mpr hi)
  have l2 : j.natAbs.log2 ≤ n := by
    by_cases h0 : j.natAbs = 0
    · rw [h0]; simp
    · exact Nat.le_of_lt ((Nat.log2_lt h0).mpr hj)
  omega
theorem cd_of {i j : Int} {n : Nat} (h0 : 0 < j) (h : j.natAbs < 2 ^ n) (hn : n ≤ 8999) : CD i j := by
  refine ⟨h0, ?_⟩
  have : j.natAbs.log2 < n := (Nat.log2_lt (by omega)).mpr h
  omega
end Pl
end

section
set_option linter.all false
set_option maxRecDepth 100000
set_option autoImplicit false
set_option maxHeartbeats 1000000
/-! lists as data, comprehensions; floors (no program) -/
namespace Pl
open PySem
theorem comp_map {α : Type} {t : Tgt} {f : FE} {env : AEnv} {k g : α → D} : ∀ (xs : List α) (acc : List D) (Q : D → Prop), acc.length + xs.length ≤ 16777216 →
    (∀ x ∈ xs, ∀ P : D → Prop, P (g x) → wBind t (k x) env fun e => f e P) → Q (.lst (acc ++ xs.map g)) → wComp t wYes f env (xs.map k) acc Q
  | [], acc, Q, _, _, q => by simpa [wComp] using q
  | x :: xs, acc, Q, hl, h, q => by
    simp only [List.length_cons] at hl
    rw [List.map_cons]
    unfold wComp
    obtain ⟨e, he, hf⟩ := h x List.mem_cons_self (fun y => acc.length < 16777216 ∧ wComp t wYes f env (xs.map k) (acc ++ [y]) Q) ⟨by omega, comp_map xs _ Q (by simp; omega) (fun x hx => h x (List.mem_cons_of_mem _ hx)) (by simpa using q)⟩
    exact ⟨e, he, by simpa [wYes] using hf⟩
theorem ix_lst {xs : List D} {i : Int} {d : D} (Q : D → Prop) (h0 : 0 ≤ i) (h : xs[i.toNat]? = some d) : dIx (.lst xs) (.int i) Q = Q d := by
  have hl : i.toNat < xs.length := by
    rcases Nat.lt_or_ge i.toNat xs.length with c | c
    · exact c
    · rw [List.getElem?_eq_none c] at h; cases h
  have e : ixD xs.length i = some i.toNat := by
    unfold ixD
    rw [if_pos h0, if_pos (by omega)]
  show (∃ d, ((ixD xs.length i).bind fun j => xs[j]?) = some d ∧ Q d) = Q d
  rw [e, Option.bind_some, h]
  simp
theorem ix_frs {xs : List Rat} {i : Int} {r : Rat} (Q : D → Prop) (h0 : 0 ≤ i) (h : xs[i.toNat]? = some r) : dIx (.lst (xs.map fr)) (.int i) Q = Q (fr r) := ix_lst Q h0 (by rw [List.getElem?_map, h]; rfl)
theorem deqs_frs_nil (xs : List Rat) : deqs (xs.map fr) [] = decide (xs = []) := deqs_frs xs []
theorem flatten_one (n : Nat) (d : D) : (List.replicate n [d]).flatten = List.replicate n d := by induction n <;> simp_all [List.replicate_succ]
theorem fl_iff (q : Rat) (n : Int) : q.floor = n ↔ (n : Rat) ≤ q ∧ q < n + 1 := by
  rw [← Rat.le_floor_iff, show (n : Rat) + 1 = ((n + 1 : Int) : Rat) by simp [Rat.intCast_add], ← Rat.floor_lt_iff]
  omega
theorem fl_le (q : Rat) : (q.floor : Rat) ≤ q := ((fl_iff q _).mp rfl).1
theorem lt_fl (q : Rat) : q < q.floor + 1 := ((fl_iff q _).mp rfl).2
theorem fl_eq {q : Rat} {n : Int} (h : (n : Rat) ≤ q) (h2 : q < n + 1) : q.floor = n := (fl_iff q n).mpr ⟨h, h2⟩
theorem fl_addi (q : Rat) (m : Int) : (q + (m : Rat)).floor = q.floor + m := by
  have h1 := fl_le q
  have h2 := lt_fl q
  refine fl_eq ?_ ?_ <;> rw [Rat.intCast_add] <;> grind
theorem fl_i (m : Int) : ((m : Int) : Rat).floor = m := Rat.floor_intCast m
theorem den40 {a b : Rat} (ha : Sz 40 a) (hb : Sz 40 b) : a.den * b.den < 2 ^ 100 := Nat.lt_of_lt_of_le (Nat.mul_lt_mul'' ha.den hb.den) (by decide)
theorem sz_dec {n : Nat} {t b : Int} (h1 : t.natAbs < 2 ^ n) (h2 : b.natAbs < 2 ^ n) (h0 : 1 ≤ n) : Sz n (Rat.divInt t b) := divInt_sz h1 h2 h0
theorem divInt_pos {t b : Int} (ht : 0 < t) (hb : 0 < b) : 0 < Rat.divInt t b := by
  rw [Rat.divInt_eq_div]
  have h1 : (0 : Rat) < t := by exact_mod_cast ht
  have h2 : (0 : Rat) < b := by exact_mod_cast hb
  exact (Rat.lt_div_iff h2).mpr (by rw [Rat.zero_mul]; exact h1)
theorem divInt_nn {t b : Int} (ht : 0 ≤ t) (hb : 0 < b) : 0 ≤ Rat.divInt t b := by
  rcases (by omega : t = 0 ∨ 0 < t) with rfl | h
  · simp
  · exact Rat.le_of_lt (divInt_pos h hb)
/-- a fraction of two numbers against a number -/
theorem divInt_le {t b n : Int} (hb : 0 < b) (h : t ≤ n * b) : Rat.divInt t b ≤ (n : Rat) := by
  rw [Rat.divInt_eq_div]
  have h2 : (0 : Rat) < b := by exact_mod_cast hb
  rw [← Rat.not_lt, Rat.lt_div_iff h2, Rat.not_lt]
  have : ((t : Int) : Rat) ≤ ((n * b : Int) : Rat) := by exact_mod_cast h
  rw [Rat.intCast_mul] at this
  exact this
theorem comp_rng0 {t : Tgt} {f : FE} {env : AEnv} {n : Nat} {Q : D → Prop} (g : Nat → D) (hn : n ≤ 1000000) (h : ∀ i, i < n → ∀ P : D → Prop, P (g i) → wBind t (.int (i : Int)) env fun e => f e P) (q : Q (.lst ((List.range n).map g))) : wComp t wYes f env (rngD 0 n) [] Q :=
  comp_map (g := g) (List.range n) [] Q (by simp; omega) (fun i hi P p => by
    have := h i (List.mem_range.mp hi) P p
    rw [show (0 : Int) + (i : Int) = (i : Int) by omega]
    exact this) (by simpa using q)
theorem comp_rng1 {t : Tgt} {f : FE} {env : AEnv} {n : Nat} {Q : D → Prop} (g : Nat → D) (hn : n ≤ 1000000) (h : ∀ i, i < n → ∀ P : D → Prop, P (g i) → wBind t (.int (1 + (i : Int))) env fun e => f e P) (q : Q (.lst ((List.range n).map g))) : wComp t wYes f env (rngD 1 n) [] Q :=
  comp_map (g := g) (List.range n) [] Q (by simp; omega) (fun i hi P p => h i (List.mem_range.mp hi) P p) (by simpa using q)
theorem comp_frs {t : Tgt} {f : FE} {env : AEnv} {xs : List Rat} {Q : D → Prop} (g : Rat → D) (hn : xs.length ≤ 1000000) (h : ∀ x ∈ xs, ∀ P : D → Prop, P (g x) → wBind t (fr x) env fun e => f e P) (q : Q (.lst (xs.map g))) : wComp t wYes f env (xs.map fr) [] Q :=
  comp_map (g := g) xs [] Q (by simp; omega) h (by simpa using q)
/-- a comprehension with a test -/
theorem comp_filter {α : Type} {t : Tgt} {c : FT} {f : FE} {env : AEnv} {k g : α → D} {p : α → Bool} : ∀ (xs : List α) (acc : List D) (Q : D → Prop), acc.length + xs.length ≤ 16777216 →
    (∀ x ∈ xs, ∀ P : Bool → AEnv → Prop, (∀ e, bindT t (k x) env = some e → P (p x) e) → wBind t (k x) env fun e => c e fun b => P b e) →
    (∀ x ∈ xs, p x = true → ∀ P : D → Prop, P (g x) → ∀ e, bindT t (k x) env = some e → f e P) → Q (.lst (acc ++ (xs.filter p).map g)) → wComp t c f env (xs.map k) acc Q
  | [], acc, Q, _, _, _, q => by simpa [wComp] using q
  | x :: xs, acc, Q, hl, hc, h, q => by
    simp only [List.length_cons] at hl
    rw [List.map_cons]
    unfold wComp
    refine hc x List.mem_cons_self (fun b e => if b = true then f e fun y => acc.length < 16777216 ∧ wComp t c f env (xs.map k) (acc ++ [y]) Q else wComp t c f env (xs.map k) acc Q) fun e he => ?_
    cases hp : p x with
    | true =>
      rw [if_pos rfl]
      refine h x List.mem_cons_self hp _ ⟨by omega, ?_⟩ e he
      refine comp_filter xs _ Q (by simp; omega) (fun x hx => hc x (List.mem_cons_of_mem _ hx)) (fun x hx => h x (List.mem_cons_of_mem _ hx)) ?_
      simpa [List.filter_cons, hp] using q
    | false =>
      rw [if_neg (by simp)]
      refine comp_filter xs _ Q (by omega) (fun x hx => hc x (List.mem_cons_of_mem _ hx)) (fun x hx => h x (List.mem_cons_of_mem _ hx)) ?_
      simpa [List.filter_cons, hp] using q
theorem all_flat_false {α : Type} (n : List α) : (n.map fun _ => D.bl false).all flatD = true := by simp [flatD]
theorem any_true_false {α : Type} (n : List α) : ((n.map fun _ => D.bl false).any fun y => deq y (.bl true)) = false := by simp [deq]
/-! ### slices -/
theorem cutD_to {xs : List D} {k : Int} (h : 0 ≤ k) : cutD xs none (some k) = xs.take k.toNat := by
  unfold cutD sIxD
  simp only [List.drop_zero, Nat.sub_zero]
  rw [if_neg (by omega)]
  rw [Nat.min_def]
  split
  · rfl
  · rw [List.take_of_length_le (Nat.le_refl _), List.take_of_length_le (by omega)]
theorem cutD_from {xs : List D} {k : Int} (h : 0 ≤ k) : cutD xs (some k) none = xs.drop k.toNat := by
  unfold cutD sIxD
  simp only
  rw [if_neg (by omega)]
  rw [Nat.min_def]
  split
  · rw [List.take_of_length_le (by rw [List.length_drop]; omega)]
  · rw [List.drop_of_length_le (Nat.le_refl _), List.drop_of_length_le (by omega)]
    simp
theorem cutD_to_nat {xs : List D} {k : Nat} : cutD xs none (some (k : Int)) = xs.take k := cutD_to (by omega)
theorem cutD_from_nat {xs : List D} {k : Nat} : cutD xs (some (k : Int)) none = xs.drop k := cutD_from (by omega)
/-! ### rows put in order -/
def cntR (a : Rat) (f : List Rat) : Nat := (f.filter fun b => !decide (a < b)).length
def insR (a : Rat) (f : List Rat) : List Rat := f.take (cntR a f) ++ [a] ++ f.drop (cntR a f)
def upR (l : List Rat) : List Rat := l.foldl (fun f a => insR a f) []
abbrev AscR (l : List Rat) : Prop := l.Pairwise fun a b => a ≤ b
theorem cntR_le (a : Rat) (f : List Rat) : cntR a f ≤ f.length := List.length_filter_le _ _
theorem cntR_cons (a b : Rat) (f : List Rat) : cntR a (b :: f) = (if a < b then 0 else 1) + cntR a f := by
  unfold cntR
  by_cases h : a < b
  · simp [List.filter_cons, h]
  · simp [List.filter_cons, h]; omega
theorem insR_parts {a : Rat} : ∀ {f : List Rat}, AscR f → (∀ b ∈ f.take (cntR a f), b ≤ a) ∧ ∀ b ∈ f.drop (cntR a f), a < b
  | [], _ => by simp [cntR]
  | b :: f, h => by
    rw [cntR_cons]
    obtain ⟨h1, h2⟩ := List.pairwise_cons.mp h
    obtain ⟨i1, i2⟩ := insR_parts (a := a) h2
    by_cases c : a < b
    · have z : cntR a f = 0 := by
        unfold cntR
        rw [List.length_eq_zero_iff, List.filter_eq_nil_iff]
        intro x hx
        have := h1 x hx
        simp only [Bool.not_eq_true', decide_eq_false_iff_not, Rat.not_lt]
        grind
      rw [if_pos c, z]
      refine ⟨by simp, fun x hx => ?_⟩
      simp only [Nat.add_zero, List.drop_zero, List.mem_cons] at hx
      rcases hx with rfl | hx
      · exact c
      · have := h1 x hx; grind
    · rw [if_neg c, Nat.add_comm]
      simp only [List.take_succ_cons, List.drop_succ_cons, List.mem_cons]
      exact ⟨fun x hx => hx.elim (fun e => by subst e; exact Rat.not_lt.mp c) (i1 x), i2⟩
theorem insR_asc {a : Rat} {f : List Rat} (h : AscR f) : AscR (insR a f) := by
  obtain ⟨h1, h2⟩ := insR_parts (a := a) h
  unfold insR AscR
  rw [List.append_assoc, List.pairwise_append]
  refine ⟨List.Pairwise.sublist (List.take_sublist _ _) h, ?_, ?_⟩
  · rw [List.singleton_append, List.pairwise_cons]
    exact ⟨fun b hb => Rat.le_of_lt (h2 b hb), List.Pairwise.sublist (List.drop_sublist _ _) h⟩
  · intro x hx y hy
    rw [List.singleton_append, List.mem_cons] at hy
    rcases hy with rfl | hy
    · exact h1 x hx
    · have := h1 x hx; have := h2 y hy; grind
theorem upR_asc_of : ∀ (l acc : List Rat), AscR acc → AscR (l.foldl (fun f a => insR a f) acc)
  | [], acc, h => h
  | a :: l, acc, h => upR_asc_of l _ (insR_asc h)
theorem upR_asc (l : List Rat) : AscR (upR l) := upR_asc_of l [] List.Pairwise.nil
theorem insR_mem {a x : Rat} {f : List Rat} : x ∈ insR a f ↔ x = a ∨ x ∈ f := by
  unfold insR
  rw [List.mem_append, List.mem_append, List.mem_singleton]
  have e : x ∈ f ↔ x ∈ f.take (cntR a f) ∨ x ∈ f.drop (cntR a f) := by
    rw [← List.mem_append, List.take_append_drop]
  rw [e]
  grind
theorem upR_mem_of {x : Rat} : ∀ (l acc : List Rat), x ∈ l.foldl (fun f a => insR a f) acc ↔ x ∈ acc ∨ x ∈ l
  | [], acc => by simp
  | a :: l, acc => by rw [List.foldl_cons, upR_mem_of l, insR_mem, List.mem_cons]; grind
theorem upR_mem {x : Rat} {l : List Rat} : x ∈ upR l ↔ x ∈ l := by unfold upR; rw [upR_mem_of]; simp
theorem insR_length (a : Rat) (f : List Rat) : (insR a f).length = f.length + 1 := by
  unfold insR
  have := cntR_le a f
  simp only [List.length_append, List.length_take, List.length_drop, List.length_singleton]
  omega
theorem upR_length_of : ∀ (l acc : List Rat), (l.foldl (fun f a => insR a f) acc).length = acc.length + l.length
  | [], acc => by simp
  | a :: l, acc => by rw [List.foldl_cons, upR_length_of l, insR_length, List.length_cons]; omega
theorem upR_length (l : List Rat) : (upR l).length = l.length := by unfold upR; rw [upR_length_of]; simp
theorem cntR_all {a : Rat} {f : List Rat} (h : ∀ b ∈ f, b ≤ a) : cntR a f = f.length := by
  unfold cntR
  rw [List.filter_eq_self.mpr]
  intro b hb
  have := h b hb
  simp only [Bool.not_eq_true', decide_eq_false_iff_not]
  grind
theorem upR_self_of : ∀ (l acc : List Rat), AscR (acc ++ l) → l.foldl (fun f a => insR a f) acc = acc ++ l
  | [], acc, _ => by simp
  | a :: l, acc, h => by
    have h1 : ∀ b ∈ acc, b ≤ a := fun b hb => (List.pairwise_append.mp h).2.2 b hb a List.mem_cons_self
    have e : insR a acc = acc ++ [a] := by
      unfold insR
      rw [cntR_all h1]
      simp
    rw [List.foldl_cons, e, upR_self_of l (acc ++ [a]) (by simpa using h)]
    simp
theorem upR_self {l : List Rat} (h : AscR l) : upR l = l := by unfold upR; rw [upR_self_of l [] (by simpa using h)]; rfl
theorem upR_two (a b : Rat) : upR [a, b] = if b < a then [b, a] else [a, b] := by
  unfold upR
  simp only [List.foldl_cons, List.foldl_nil]
  have e : insR a [] = [a] := by simp [insR, cntR]
  rw [e]
  by_cases h : b < a
  · simp [insR, cntR, h]
  · simp [insR, cntR, h]
end Pl
end

section
set_option linter.all false
set_option maxRecDepth 100000
set_option autoImplicit false
set_option maxHeartbeats 1000000
/-! numbers as data, drawn lists, sums of fractions (no program) -/
namespace Pl
open PySem
/-- a number as data -/
def nD (n : Nat) : D := .int n
theorem deq_nD (a b : Nat) : deq (nD a) (nD b) = decide (a = b) := by
  unfold nD
  rw [deq_int_int]
  by_cases c : a = b
  · subst c; simp
  · simp [c]; omega
theorem deqs_nD (xs ys : List Nat) : deqs (xs.map nD) (ys.map nD) = decide (xs = ys) := deqs_map deq_nD xs ys
theorem plain_nD (n k : Nat) : plain n (nD k) = true := plain_int
theorem plains_nD (n : Nat) (xs : List Nat) : plains n (xs.map nD) = true := plains_map fun x => plain_int
theorem ints_nD (xs : List Nat) : intsD (xs.map nD) = some (xs.map fun (n : Nat) => (n : Int)) := by
  induction xs with
  | nil => rfl
  | cons n xs ih => simp [intsD, nD] at ih ⊢; exact ih
theorem sum_nD (xs : List Nat) : (xs.map fun (n : Nat) => (n : Int)).sum = (xs.sum : Nat) := by
  induction xs with
  | nil => rfl
  | cons n xs ih => simp only [List.map_cons, List.sum_cons, ih]; omega
theorem bSum_nD (xs : List Nat) (Q : D → Prop) : bSum [.lst (xs.map nD)] Q = Q (nD xs.sum) := by
  simp only [bSum, ints_nD, Option.some.injEq, exists_eq_left', sum_nD]; rfl
theorem bLen_map {α : Type} (f : α → D) (xs : List α) (Q : D → Prop) : bLen [.lst (xs.map f)] Q = Q (nD xs.length) := by simp [bLen, nD]
theorem ix_map {α : Type} {f : α → D} {xs : List α} {i : Nat} {x : α} (h : xs[i]? = some x) (Q : D → Prop) : dIx (.lst (xs.map f)) (.int (i : Nat)) Q = Q (f x) := ix_lst Q (by omega) (by rw [Int.toNat_natCast, List.getElem?_map, h]; rfl)
theorem cut_to {α : Type} (f : α → D) (xs : List α) (k : Nat) : cutD (xs.map f) none (some (k : Int)) = (xs.take k).map f := by rw [cutD_to_nat, List.map_take]
theorem cut_from {α : Type} (f : α → D) (xs : List α) (k : Nat) : cutD (xs.map f) (some (k : Int)) none = (xs.drop k).map f := by rw [cutD_from_nat, List.map_drop]
theorem rng_nD (n : Nat) : rngD 0 n = (List.range n).map nD := by
  unfold rngD
  refine List.map_congr_left fun i _ => ?_
  show D.int (0 + (i : Int)) = D.int (i : Int)
  rw [Int.zero_add]
theorem rng_from (a n : Nat) : rngD (a : Int) n = (List.range' a n).map nD := by
  unfold rngD
  rw [List.range'_eq_map_range, List.map_map]
  refine List.map_congr_left fun i _ => ?_
  show D.int ((a : Int) + (i : Int)) = D.int ((a + i : Nat) : Int)
  rw [Int.natCast_add]
theorem any_nD (l : List Nat) (i : Nat) : ((l.map nD).any fun y => deq y (.int (i : Nat))) = decide (i ∈ l) := by
  induction l with
  | nil => simp
  | cons n l ih =>
    rw [List.map_cons, List.any_cons, ih, show deq (nD n) (.int (i : Nat)) = decide (n = i) from deq_nD n i]
    by_cases e : n = i
    · subst e; simp
    · have e' : ¬ i = n := fun z => e z.symm
      simp [e, e']
theorem flat_nD (l : List Nat) : (l.map nD).all flatD = true := by simp [flatD, nD]
/-- a comprehension whose values are drawn -/
theorem comp_any {α β : Type} {t : Tgt} {f : FE} {env : AEnv} {k : α → D} {v : β → D} {R : β → Prop} : ∀ (xs : List α) (acc : List β) (Q : D → Prop), acc.length + xs.length ≤ 16777216 →
    (∀ x ∈ xs, ∀ P : D → Prop, (∀ b, R b → P (v b)) → wBind t (k x) env fun e => f e P) → (∀ bs : List β, bs.length = xs.length → (∀ b ∈ bs, R b) → Q (.lst ((acc ++ bs).map v))) → wComp t wYes f env (xs.map k) (acc.map v) Q
  | [], acc, Q, _, _, q => by simpa [wComp] using q [] rfl (by simp)
  | x :: xs, acc, Q, hl, h, q => by
    simp only [List.length_cons] at hl
    rw [List.map_cons]
    unfold wComp
    have := h x List.mem_cons_self (fun y => (acc.map v).length < 16777216 ∧ wComp t wYes f env (xs.map k) (acc.map v ++ [y]) Q) fun b hb => ⟨by simp; omega, by
      have e : acc.map v ++ [v b] = (acc ++ [b]).map v := by simp
      rw [e]
      exact comp_any xs (acc ++ [b]) Q (by simp; omega) (fun x hx => h x (List.mem_cons_of_mem _ hx)) fun bs hbs hR => by
        have := q (b :: bs) (by simp [hbs]) (fun c hc => (List.mem_cons.mp hc).elim (fun e => e ▸ hb) (hR c))
        simpa using this⟩
    obtain ⟨e, he, hf⟩ := this
    exact ⟨e, he, by simpa [wYes] using hf⟩
/-! ### twelfths -/
def Tf (N : Int) (q : Rat) : Prop := ∃ k : Int, q = (k : Rat) / 12 ∧ 0 ≤ k ∧ k ≤ N
theorem Tf.add {M N : Int} {p q : Rat} (h : Tf M p) (g : Tf N q) : Tf (M + N) (p + q) := by
  obtain ⟨j, rfl, j0, j1⟩ := h
  obtain ⟨k, rfl, k0, k1⟩ := g
  refine ⟨j + k, ?_, by omega, by omega⟩
  rw [Rat.intCast_add]
  grind
theorem Tf.mono {M N : Int} {p : Rat} (h : Tf M p) (hN : M ≤ N) : Tf N p := by
  obtain ⟨j, e, j0, j1⟩ := h
  exact ⟨j, e, j0, by omega⟩
theorem Tf.zero {N : Int} (h : 0 ≤ N) : Tf N 0 := ⟨0, by grind, by omega, h⟩
theorem Tf.nn {M : Int} {p : Rat} (h : Tf M p) : 0 ≤ p := by
  obtain ⟨j, rfl, j0, j1⟩ := h
  have : (0 : Rat) ≤ (j : Rat) := by exact_mod_cast j0
  grind
theorem Tf.sz {M : Int} {p : Rat} {n : Nat} (h : Tf M p) (hM : M.toNat < 2 ^ n) (hn : 4 ≤ n) : Sz n p := by
  obtain ⟨j, rfl, j0, j1⟩ := h
  have e : (j : Rat) / 12 = Rat.divInt j 12 := by rw [Rat.divInt_eq_div]; rfl
  rw [e]
  have p4 : (2 : Nat) ^ 4 ≤ 2 ^ n := pow_mono hn
  exact divInt_sz (by omega) (by show 12 < 2 ^ n; omega) (by omega)
theorem tf_frac {t b m : Int} (b1 : 1 ≤ b) (b2 : b ≤ 4) (t0 : 0 ≤ t) (t1 : t ≤ m * b) : Tf (12 * m) (Rat.divInt t b) := by
  rw [Rat.divInt_eq_div]
  rcases (by omega : b = 1 ∨ b = 2 ∨ b = 3 ∨ b = 4) with rfl | rfl | rfl | rfl
  · exact ⟨12 * t, by rw [Rat.intCast_mul]; grind, by omega, by omega⟩
  · exact ⟨6 * t, by rw [Rat.intCast_mul]; grind, by omega, by omega⟩
  · exact ⟨4 * t, by rw [Rat.intCast_mul]; grind, by omega, by omega⟩
  · exact ⟨3 * t, by rw [Rat.intCast_mul]; grind, by omega, by omega⟩
/-- the sum of a row, from 0 on -/
def sumR (l : List Rat) : Rat := l.foldl (· + ·) 0
theorem foldl_addR (l : List Rat) (a : Rat) : l.foldl (· + ·) a = a + sumR l := by
  unfold sumR
  induction l generalizing a with
  | nil => simp; grind
  | cons b l ih =>
    rw [List.foldl_cons, List.foldl_cons, ih, ih (0 + b)]
    grind
theorem sumR_cons (a : Rat) (l : List Rat) : sumR (a :: l) = a + sumR l := by
  show (a :: l).foldl (· + ·) 0 = _
  rw [List.foldl_cons, foldl_addR]
  grind
theorem sumR_app (l m : List Rat) : sumR (l ++ m) = sumR l + sumR m := by
  induction l with
  | nil => show sumR m = 0 + sumR m; grind
  | cons a l ih => rw [List.cons_append, sumR_cons, sumR_cons, ih]; grind
theorem tf_sum {N : Int} (hN : 0 ≤ N) : ∀ {l : List Rat}, (∀ x ∈ l, Tf N x) → Tf (N * l.length) (sumR l)
  | [], _ => Tf.zero (by simp)
  | a :: l, h => by
    rw [sumR_cons]
    refine ((h a List.mem_cons_self).add (tf_sum hN fun x hx => h x (List.mem_cons_of_mem _ hx))).mono ?_
    rw [List.length_cons, Int.natCast_add, Int.mul_add]
    omega
end Pl
end

section
set_option linter.all false
set_option maxRecDepth 100000
set_option autoImplicit false
set_option maxHeartbeats 1000000
/-! own.append(other.pop(..)), range by twos (no program) -/
namespace Pl
open PySem
/-- own.append(other.pop(..)) -/
def wAppPop (i j : Nat) (fs : FEs) : FS := fun A env => ∃ a, env[i]? = some (.own (.lst a)) ∧ ∃ b, env[j]? = some (.own (.lst b)) ∧ fs env fun xs => mPopAt b xs fun r b' => mAppend a [r] fun _ a' => A.nx ((env.set j (.own (.lst b'))).set i (.own (.lst a')))
/-- range(i, j, 2) -/
def rngS (i : Int) (n : Nat) : List D := (List.range n).map fun (k : Nat) => D.int (i + (k : Int) * 2)
def wRngTwo (fs : FEs) : FEs := fun env Q => fs env fun xs => match xs with
  | [.int i, .int j, .int 2] => (0 ≤ i ∧ i < 2 ^ 30 ∧ 0 ≤ j ∧ j < 2 ^ 30) ∧ Q (rngS i ((j - i + 1) / 2).toNat)
  | _ => False
/-- a, b = two new lists of their own -/
def wXPar2 (i j : Nat) (fa fb : FE) : FS := fun A env => fa env fun x => fb env fun y => A.nx ((env.set i (.own x)).set j (.own y))
/-- list(range(n)) -/
def wListRng (f : FE) : FE := fun env Q => f env fun x => match x with
  | .int n => (0 ≤ n ∧ n ≤ 16777216) ∧ Q (.lst (rngD 0 n.toNat))
  | _ => False
end Pl
end

section
set_option Elab.async false
set_option linter.all false
set_option maxRecDepth 100000
set_option maxHeartbeats 4000000
set_option autoImplicit false
namespace Pl
open PySem PySem.Spec PyProof.Rows L2
/-! ### own.append(other.pop(e)) -/
section
variable {X : Cx} {i j : Nat} {x y : Str} {e : Expr} {es : List Expr} {fs : FEs} {p p2 apos bpos q pos' pos : Pos}
theorem pp_appPop (hij : i ≠ j) (hN : X.N[i]? = some x) (hv : Vis X.env.scope x) (hN2 : X.N[j]? = some y) (hv2 : Vis X.env.scope y) (ha : PPA X (e :: es) fs)
    (hd : (x == ("__debug__" : Str)) = false := by decide) (hcd : (x == ("__classdict__" : Str)) = false := by decide)
    (hd2 : (y == ("__debug__" : Str)) = false := by decide) (hcd2 : (y == ("__classdict__" : Str)) = false := by decide)
    (hbase2 : attributeBase (.Name y p2) "pop" X.env (eval (.Name y p2) X.env) = eval (.Name y p2) X.env := by rfl)
    (hfew2 : ((backTo q (starEach (e :: es) X.env)).all (fun x => !x.1) && (backToKw q (keywordEach [] X.env)).all (fun x => x.1.isSome)
      && decide ((e :: es).length + ([] : List Keyword).length + (if ([] : List Keyword).isEmpty then 0 else 1) < 30)) = true := by rfl)
    (hline2 : (bpos.endLine == q.line) = true := by rfl) (hs2 : starEach (e :: es) X.env = (false, eval e X.env) :: starEach es X.env := by rfl) (hplain2 : (backTo q (starEach es X.env)).any (·.1) = false := by rfl)
    (hbase : attributeBase (.Name x p) "append" X.env (eval (.Name x p) X.env) = eval (.Name x p) X.env := by rfl)
    (hfew : ((backTo pos' (starEach [.Call (.Attribute (.Name y p2) "pop" bpos) (e :: es) [] q] X.env)).all (fun x => !x.1) && (backToKw pos' (keywordEach [] X.env)).all (fun x => x.1.isSome)
      && decide (([.Call (.Attribute (.Name y p2) "pop" bpos) (e :: es) [] q] : List Expr).length + ([] : List Keyword).length + (if ([] : List Keyword).isEmpty then 0 else 1) < 30)) = true := by rfl)
    (hline : (apos.endLine == pos'.line) = true := by rfl) (hs : starEach [.Call (.Attribute (.Name y p2) "pop" bpos) (e :: es) [] q] X.env = (false, eval (.Call (.Attribute (.Name y p2) "pop" bpos) (e :: es) [] q) X.env) :: starEach [] X.env := by rfl) (hplain : (backTo pos' (starEach [] X.env)).any (·.1) = false := by rfl)
    (hsw : swapsWith (.Call (.Attribute (.Name x p) "append" apos) [.Call (.Attribute (.Name y p2) "pop" bpos) (e :: es) [] q] [] pos') none pos.line X.env = pure false := by rfl) :
    PPS X (.Expr (.Call (.Attribute (.Name x p) "append" apos) [.Call (.Attribute (.Name y p2) "pop" bpos) (e :: es) [] q] [] pos') pos) (wAppPop i j fs) :=
  (ps_expr (pe_bm PySem.F.plainAttrs_list PySem.F.slot_list_append PySem.F.type_list_append mt_append (pe_var hN hv hd hcd)
    (pa_cons (pe_bm PySem.F.plainAttrs_list PySem.F.slot_list_pop PySem.F.type_list_pop mt_popAt (pe_var hN2 hv2 hd2 hcd2) ha hbase2 hfew2 hline2 hs2 hplain2) pa_nil hs) hbase hfew hline hs hplain) hsw).imp fun En σ H ⟨g, M, env, A, s, ⟨a, ea, b, eb, q⟩, k⟩ => by
    obtain ⟨o, eo, l, el, ml, lT, h0, us, hl, rs⟩ := s.slot ea
    subst el
    refine ⟨_, eo, .inl ⟨rfl, us, .of hl⟩, ?_⟩
    refine tMut_of m_popAt s (N := fun env' r => env'[i]? = some (.own (.lst a)) ∧ mAppend a [r] fun _ a' => A.nx (env'.set i (.own (.lst a')))) ⟨b, eb, ?_⟩ fun env' M' H' d v ⟨ea', q'⟩ s' r' => ?_
    · have mono : ∀ (xs : List D) (Q Q' : D → List D → Prop), mPopAt b xs Q → (∀ r b', Q r b' → Q' r b') → mPopAt b xs Q' := by
        intro xs Q Q' h hh
        unfold mPopAt at h ⊢
        split at h
        · obtain ⟨h1, j, x, h2, h3, h4⟩ := h
          exact ⟨h1, j, x, h2, h3, hh _ _ h4⟩
        · exact h.elim
      have mo : (fun xs => mPopAt b xs fun r b' => mAppend a [r] fun _ a' => A.nx ((env.set j (.own (.lst b'))).set i (.own (.lst a')))) = (fun xs => mPopAt b xs fun r b' => (env.set j (.own (.lst b')))[i]? = some (.own (.lst a)) ∧ mAppend a [r] fun _ a' => A.nx ((env.set j (.own (.lst b'))).set i (.own (.lst a')))) := by
        funext xs
        refine propext ⟨fun h => mono xs _ _ h fun r b' h => ⟨by rw [List.getElem?_set_ne (Ne.symm hij)]; exact ea, h⟩, fun h => mono xs _ _ h fun r b' h => h.2⟩
      rw [← mo]
      exact q
    · obtain ⟨o', eo', l', el', ml', lT', h0', us', hl', rs'⟩ := s'.slot ea'
      rw [eo] at eo'
      injection eo' with e
      subst e
      injection el' with e
      injection e with e
      subst e
      show rAppend (.ref l) [v] H' fun _ H1 => En.nx σ H1
      refine m_append g.T M' H' _ us' a _ _ [d] [v] s'.wd ml' lT' hl' rs' (.cons r' .nil) q' fun x a' v us2 q2 r2 rs2 => ?_
      exact k.nx _ M' _ _ q2 (s'.mut ea' eo ⟨us2, upd_same, rs2⟩)
/-! ### range(i, j, 2) -/
theorem it_two {K : PySem.W.Frag} {T : Tp} {M : Addr → Prop} {H1 : Hp} {i : Int} {n : Nat} : ItOk K T M (Itc i 2 n) (rngS i n) H1 := by
  intro M' m H hM w kp
  have hl : (rngS i n).length = n := by simp [rngS]
  rw [hl]
  refine ⟨fun lt => ⟨lt, fun x H' y => ?_⟩, fun ge => ge⟩
  obtain ⟨e, y⟩ := y
  subst e y
  refine ⟨.refl w, .int (i + (m : Int) * 2), ?_, .int _⟩
  simp [rngS, lt]
theorem rgTwo {i j : Int} (h : 0 ≤ i ∧ i < 2 ^ 30 ∧ 0 ≤ j ∧ j < 2 ^ 30) : RgC i j 2 ((j - i + 1) / 2).toNat := by
  have e : Builtin.Range.rangeSize i j 2 = (((j - i + 1) / 2).toNat : Int) := by
    unfold Builtin.Range.rangeSize
    rw [if_pos (by decide)]
    split <;> omega
  refine ⟨by decide, by decide, ?_, e⟩
  unfold Builtin.Range.small
  rw [e]
  simp only [Builtin.Range.rangeFitsLong, Bool.and_eq_true, Bool.or_eq_true, decide_eq_true_eq, beq_iff_eq, show ((2 : Int) > 0) by decide, if_true]
  obtain ⟨h1, h2, h3, h4⟩ := h
  have p30 : (2 : Int) ^ 30 = 1073741824 := by decide
  have p63 : (2 : Int) ^ 63 = 9223372036854775808 := by decide
  rw [p30] at h2 h4
  rw [p63]
  refine ⟨⟨⟨⟨⟨by omega, by omega⟩, by omega, by omega⟩, by omega, by omega⟩, by omega, by omega⟩, .inr ⟨by omega, by omega⟩⟩
theorem ppi_two {tg a b c : Expr} {p pos : Pos} (hg : Gl X "range") (hm : X.mg "range" = none) (ha : PPA X [a, b, c] fs) (hs : starEach [a, b, c] X.env = (false, eval a X.env) :: starEach [b, c] X.env := by rfl)
    (hpl : (backTo pos (starEach [b, c] X.env)).any (·.1) = false := by rfl) : PPI X tg (.Call (.Name "range" p) [a, b, c] [] pos) (wRngTwo fs) :=
  PI.imp (pi_range3 hg hm ha hs hpl) fun σ H R ⟨g, M, env, Qd, s, q, k⟩ => ⟨g, M, env, _, s, q, fun ds vs H1 q1 g1 r1 => by
    split at q1
    · obtain ⟨v, us, e, r, r2⟩ := r1.inv_cons
      obtain ⟨v', us', e', r', r2'⟩ := r2.inv_cons
      obtain ⟨v'', us'', e'', r'', r2''⟩ := r2'.inv_cons
      rw [r2''.inv_nil] at e''
      rw [e', e'', r.b.int, r'.b.int, r''.b.int] at e
      exact ⟨_, _, _, _, e, rgTwo q1.1, k _ _ _ q1.2 g1 it_two⟩
    · exact q1.elim⟩
end
/-! ### list(range(n)) -/
theorem reps_map {K : PySem.W.Frag} {T : Tp} {M : Addr → Prop} {H : Hp} {f : Nat → V} {g : Nat → D} (h : ∀ i, Rep K T M H (f i) (g i)) : ∀ l : List Nat, Reps K T M H (l.map f) (l.map g)
  | [] => .nil
  | i :: l => .cons (h i) (reps_map h l)
theorem pf_listRng {X : Cx} {e : Expr} {f : FE} {p p2 pos pos2 : Pos} (hc : X.calm = true) (hg : Gl X "list") (hm : X.mg "list" = none) (hg2 : Gl X "range") (hm2 : X.mg "range" = none) (he : PP X e f)
    (hs : starEach [e] X.env = (false, eval e X.env) :: starEach [] X.env := by rfl)
    (hs2 : starEach [.Call (.Name "range" p2) [e] [] pos2] X.env = (false, eval (.Call (.Name "range" p2) [e] [] pos2) X.env) :: starEach [] X.env := by rfl) :
    PF X (.Call (.Name "list" p) [.Call (.Name "range" p2) [e] [] pos2] [] pos) (wListRng f) :=
  (pe_listRg hc hg hm (prg_1 hg2 hm2 he hs) hs2).imp fun σ H Q ⟨g, M, env, Qd, s, q, k⟩ => ⟨g, M, env, _, s, q, fun d v H1 q1 g1 r1 => by
    split at q1
    · rename_i n
      obtain ⟨⟨h0, h1⟩, q1⟩ := q1
      refine ⟨n, r1.b.int, .of_le (by omega) h1 (by omega) h0, fun a ha => ?_⟩
      have s1 := s.grow g1
      have g2 : Grow X.K g.T M H1 (upd H1 a (.lst (rgV 0 n))) := .new s1.wd ha
      have rs : Reps X.K g.T M H1 (rgV 0 n) (rngD 0 n.toNat) := by
        unfold rgV rngD
        rw [show (n - 0).toNat = n.toNat by omega]
        exact reps_map (fun i => .int _) _
      exact k _ _ _ q1 (g1.trans g2) (FRep.back s.wd g1 (FRep.lst s1.wd ha rs))
    · exact q1.elim⟩
/-! ### a, b = two new lists of their own -/
section
variable {K : PySem.W.Frag} {g : Gh} {M : Addr → Prop} {σ : L2.St} {H H' : Hp} {env : AEnv} {l : Addr} {d : D} {i : Nat}
/-- a new list may be changed -/
theorem SR.free (r : SR K g M σ H env) (g1 : Grow K g.T M H H') (n : H l = none) (hl' : H' l ≠ none) : SR K g (fun a => M a ∨ a = l) σ H' env ∧ l ≠ g.T.t ∧ g.H0 l = none ∧ (∀ (j : Nat) (e : D) (l2 : Addr), env[j]? = some (.own e) → σ[j]? = some (some (.ref l2)) → l2 ≠ l) := by
  have r1 := r.grow g1
  have lT : l ≠ g.T.t := fun z => by subst z; exact r.wd.tape.ne n
  have h0 : g.H0 l = none := by
    cases q : g.H0 l with
    | none => rfl
    | some o => rw [r.gr l o lT q] at n; cases n
  have notM : ∀ a, H a ≠ none → a ≠ l := fun a h z => h (by rw [z]; exact n)
  have kp : ∀ {s : Slot} {o : Option V}, SlotOk K g M H o s → SlotOk K g (fun a => M a ∨ a = l) H' o s := fun {s o} q =>
    SlotOk.keep (fun a h z => z.elim id fun z => absurd z (notM a h)) (fun a z => .inl z) (fun a o n h => g1.keep a o (fun e => n (e ▸ r.wd.mT)) h) (fun l' d' e1 e2 o' h' => by
      subst e1
      obtain ⟨l2, e3, _, nT, _⟩ := q
      rw [e2] at e3; cases e3
      exact g1.keep _ _ nT h') q
  have tp : TapeOk K (fun a => M a ∨ a = l) H' g.T := by
    obtain ⟨k, acc, mix, cells, h1, h2, h3, rr⟩ := g1.tape
    refine ⟨k, acc, mix, cells, h1, h2, fun z => z.elim h3 fun z => ?_, rr⟩
    obtain ⟨_, _, _, _, _, h4, _⟩ := r.wd.tape
    rw [z, n] at h4
    cases h4
  have ownl : ∀ (j : Nat) (e : D) (l2 : Addr), env[j]? = some (.own e) → σ[j]? = some (some (.ref l2)) → l2 ≠ l := fun j e l2 e1 e2 z => by
    have q := r.sl j _ e1
    rw [List.getD_eq_getElem?_getD, e2] at q
    obtain ⟨l3, e3, _, _, _, q⟩ := q
    cases e3
    subst z
    cases e <;> first | exact q.elim | (obtain ⟨_, h, _⟩ := q; rw [n] at h; cases h) | (obtain ⟨_, _, _, h, _⟩ := q; rw [n] at h; cases h)
  exact ⟨⟨⟨tp, .inl r.wd.mT, fun a z => z.elim (fun z => r1.wd.md a z) fun z => by rw [z]; exact hl'⟩, fun a z => .inl (r.m0 a z), fun a z => z.elim (fun z => r.mh a z) fun z => .inr (by rw [z]; exact h0), r1.gr, r.len, fun j x e => kp (r.sl j x e), r.dis⟩, lT, h0, ownl⟩
/-- a list that nobody holds becomes own -/
theorem SR.take (r : SR K g M σ H env) (ml : M l) (lT : l ≠ g.T.t) (h0 : g.H0 l = none) (o : OwnR K g.T M H l d) (ownl : ∀ (j : Nat) (e : D) (l2 : Addr), env[j]? = some (.own e) → σ[j]? = some (some (.ref l2)) → l2 ≠ l) : SR K g M (σ.set i (some (.ref l))) H (env.set i (.own d)) := by
  refine ⟨r.wd, r.m0, r.mh, r.gr, by simp [r.len], fun j x e => ?_, fun j k l1 d1 e1 jk ej ek sj sk => ?_⟩
  · by_cases ij : i = j
    · subst ij
      by_cases hl : i < env.length
      · rw [List.getElem?_set_self hl] at e
        cases e
        rw [getD_set_self (by rw [r.len]; exact hl)]
        exact ⟨l, rfl, ml, lT, h0, o⟩
      · rw [List.getElem?_eq_none (by simpa using hl)] at e
        cases e
    · rw [List.getElem?_set_ne ij] at e
      rw [getD_set_ne ij]
      exact r.sl j x e
  · by_cases ij : i = j
    · subst ij
      rw [List.getElem?_set_ne jk] at ek sk
      by_cases hl : i < σ.length
      · rw [List.getElem?_set_self hl] at sj
        cases sj
        exact ownl k e1 _ ek sk rfl
      · rw [List.getElem?_eq_none (by simpa using hl)] at sj
        cases sj
    · by_cases ik : i = k
      · subst ik
        rw [List.getElem?_set_ne ij] at ej sj
        by_cases hl : i < σ.length
        · rw [List.getElem?_set_self hl] at sk
          cases sk
          exact ownl j d1 _ ej sj rfl
        · rw [List.getElem?_eq_none (by simpa using hl)] at sk
          cases sk
      · rw [List.getElem?_set_ne ij] at ej sj
        rw [List.getElem?_set_ne ik] at ek sk
        exact r.dis j k l1 d1 e1 jk ej ek sj sk
theorem OwnR.some_ (o : OwnR K g.T M H l d) : H l ≠ none := by
  cases d <;> first | exact o.elim | (obtain ⟨_, h, _⟩ := o; rw [h]; simp) | (obtain ⟨_, _, _, h, _⟩ := o; rw [h]; simp)
end
section
variable {X : Cx}
theorem pp_xpar2 {i0 i1 : Nat} {x y : Str} {a b : Expr} {fa fb : FE} {px py pt pos : Pos} {kt k2 pt2} (hc : X.calm = true) (hN : X.N.Nodup) (hi : X.N[i0]? = some x) (hj : X.N[i1]? = some y) (hij : i0 ≠ i1)
    (hx : X.env.scope.names.lookup x = some .local) (hy : X.env.scope.names.lookup y = some .local) (ha : PF X a fa) (hb : PF X b fb)
    (hw : swappedStores [.Tuple [.Name x px, .Name y py] kt pt] (.Tuple [a, b] k2 pt2) X.env = pure (some [x, y]))
    (hs : swapsWithSole [.Tuple [.Name x px, .Name y py] kt pt] (.Tuple [a, b] k2 pt2) pos.line X.env = pure false := by rfl)
    (s1 : starEach [a, b] X.env = (false, eval a X.env) :: starEach [b] X.env := by rfl) (s2 : starEach [b] X.env = (false, eval b X.env) :: starEach [] X.env := by rfl) :
    PPS X (.Assign [.Tuple [.Name x px, .Name y py] kt pt] (.Tuple [a, b] k2 pt2) pos) (wXPar2 i0 i1 fa fb) :=
  (ps_par hc hN hi hj hij hx hy (pa_cons ha (pa_cons hb pa_nil s2) s1) hw hs).imp fun En σ H ⟨g, M, env, A, s, q, k⟩ =>
    ⟨g, M, env, _, s, q, fun d v H1 q1 g1 r1 => by
      obtain ⟨l, ev, n, o⟩ := r1
      subst ev
      obtain ⟨t, lT, h0, ownl⟩ := s.free g1 n o.some_
      refine ⟨g, _, env, _, t, q1, fun e w H2 q2 g2 r2 => ?_⟩
      obtain ⟨l2, ew, n2, o2⟩ := r2
      subst ew
      obtain ⟨t2, lT2, h02, ownl2⟩ := t.free g2 n2 o2.some_
      have ll : l ≠ l2 := fun z => by subst z; exact o.some_ n2
      have o' : OwnR X.K g.T (fun a => (M a ∨ a = l) ∨ a = l2) H2 l d := OwnR.keep (g := g) (fun a h z => z.elim id fun z => absurd (by rw [z]; exact n2) h) (fun a o n h => g2.keep a o (fun e => n (e ▸ t.wd.mT)) h) (fun o h => g2.keep _ _ lT h) o
      have u1 := t2.take (i := i0) (.inl (.inr rfl)) lT h0 o' ownl
      have u2 := u1.take (i := i1) (.inr rfl) lT2 h02 o2 (fun j e l3 e1 e2 => by
        by_cases ij : i0 = j
        · subst ij
          by_cases hl : i0 < σ.length
          · rw [List.getElem?_set_self hl] at e2
            cases e2
            exact ll
          · rw [List.getElem?_eq_none (by simpa using hl)] at e2
            cases e2
        · rw [List.getElem?_set_ne ij] at e1 e2
          exact ownl2 j e l3 e1 e2)
      exact ⟨_, _, rfl, k.nx _ _ _ H2 q2 u2⟩⟩
end
/-! ### arguments that raise -/
def tAX (K : PySem.W.Frag) (c : Str) (W : WX) (F : FX) : TA := fun σ H _ => ∃ g M env, SR K g M σ H env ∧ F env ∧ ∀ H', Grow K g.T g.M0 g.H0 H' → ∀ σ', W (exV K c) none σ' H'
section
variable {X : Cx} {c : Str} {W : WX} {e : Expr} {es : List Expr} {fs : FEs} {f : FE} {x : Str} {ψ : List D → Prop} {φ : Fn} {F F' : FX} {G : FS} {t : FT} {pos p p2 : Pos} {st : Stmt} {rest : List Stmt}
/-- an argument that raises; those behind it are never reached -/
theorem pxa_here (he : PE X e (tEX X.K c W F)) (hr : PPA X es fs) (hs : starEach (e :: es) X.env = (false, eval e X.env) :: starEach es X.env := by rfl) : PA X (e :: es) (tAX X.K c W F) :=
  (pa_cons he hr hs).imp fun σ H Q q => q
/-- an argument, and one behind it raises -/
theorem pxa_next (he : PP X e f) (hr : PA X es (tAX X.K c W F)) (hs : starEach (e :: es) X.env = (false, eval e X.env) :: starEach es X.env := by rfl) : PA X (e :: es) (tAX X.K c W (fun env => f env fun _ => F env)) :=
  (pa_cons he hr hs).imp fun σ H Q ⟨g, M, env, s, q, k⟩ => ⟨g, M, env, _, s, q, fun d v H1 q1 g1 r1 => ⟨g, M, env, s.grow g1, q1, k⟩⟩
/-- a call whose arguments raise -/
theorem px_arg (Fn_ : Df X x φ) (hg : Gl X x) (ha : PA X (e :: es) (tAX X.K c W F))
    (hdb : (x == ("__debug__" : Str)) = false := by decide) (he : starEach (e :: es) X.env = (false, eval e X.env) :: starEach es X.env := by rfl) (hpl : (backTo pos (starEach es X.env)).any (·.1) = false := by rfl) :
    PE X (.Call (.Name x p) (e :: es) [] pos) (tEX X.K c W F) := by
  obtain ⟨k, f, fd, ps, Ff, hr, hm, hk, hb⟩ := Fn_.ex
  exact (pe_call Ff hr hg hm hk hb .nil pass0 ha hdb he hpl).imp fun σ H Q q => q
/-- if t: raise c(), or what follows raises -/
theorem px_ifc {pos3 : Pos} (hc : X.calm = true) (tk : Takes X W) (E : ExF X.K X.mg c) (hg : Gl X c) (ht : PPT X e t) (h2 : PSs X rest (tPX X.K c W F)) (hdb : (c == ("__debug__" : Str)) = false := by decide) : PSs X (.If e [.Raise (some (.Call (.Name c p) [] [] p2)) none pos3] [] pos :: rest) (tPX X.K c W (fun env => t env fun b => b = true ∨ F env)) :=
  (pss_cons (ps_if ht (pss_one (ps_raise hc tk (pmk0 E hg hdb))) pss_nil) h2).imp fun D σ H ⟨g, M, env, s, q, k⟩ => ⟨g, M, env, _, s, q, fun b H1 q1 g1 => by
    cases b with
    | true => rw [if_pos rfl]; exact k H1 (s.out g1) σ
    | false =>
      rw [if_neg (by decide)]
      rcases q1 with q1 | q1
      · cases q1
      · exact ⟨g, M, env, s.grow g1, q1, k⟩⟩
end
end Pl
end

section
set_option linter.all false
set_option maxRecDepth 100000
set_option autoImplicit false
set_option maxHeartbeats 1000000
namespace Pl
open PySem
def c_ONE : D := .tup [.int 1, .int 1]
theorem c_ONE_eq : c_ONE = fr 1 := rfl
def c_ZERO : D := .tup [.int 0, .int 1]
theorem c_ZERO_eq : c_ZERO = fr 0 := rfl

/-! ### fractions over one number -/
def Rq (M N : Nat) (q : Rat) : Prop := ∃ k : Int, q = (k : Rat) / (M : Int) ∧ k.natAbs ≤ N
theorem Rq.mono {M N N' : Nat} {q : Rat} (h : Rq M N q) (l : N ≤ N') : Rq M N' q := by
  obtain ⟨k, e, b⟩ := h
  exact ⟨k, e, Nat.le_trans b l⟩
theorem Rq.zero {M N : Nat} : Rq M N 0 := ⟨0, by rw [Rat.div_def]; simp [Rat.zero_mul], by simp⟩
theorem div_add_same {x y z : Rat} : x / z + y / z = (x + y) / z := by rw [Rat.div_def, Rat.div_def, Rat.div_def, ← Rat.add_mul]
theorem div_sub_same {x y z : Rat} : x / z - y / z = (x - y) / z := by rw [Rat.div_def, Rat.div_def, Rat.div_def, Rat.sub_eq_add_neg, Rat.sub_eq_add_neg, Rat.add_mul, Rat.neg_mul]
theorem Rq.add {M N N' : Nat} {p q : Rat} (h : Rq M N p) (g : Rq M N' q) : Rq M (N + N') (p + q) := by
  obtain ⟨j, rfl, a⟩ := h
  obtain ⟨k, rfl, b⟩ := g
  exact ⟨j + k, by rw [div_add_same, Rat.intCast_add], by omega⟩
theorem Rq.sub {M N N' : Nat} {p q : Rat} (h : Rq M N p) (g : Rq M N' q) : Rq M (N + N') (p - q) := by
  obtain ⟨j, rfl, a⟩ := h
  obtain ⟨k, rfl, b⟩ := g
  exact ⟨j - k, by rw [div_sub_same, Rat.intCast_sub], by omega⟩
theorem Rq.sz {M N n : Nat} {q : Rat} (h : Rq M N q) (hN : N < 2 ^ n) (hM : M < 2 ^ n) (h1 : 1 ≤ n) : Sz n q := by
  obtain ⟨k, rfl, b⟩ := h
  rw [← Rat.divInt_eq_div]
  exact divInt_sz (by omega) (by omega) h1
theorem Rq.den {M N : Nat} {q : Rat} (h : Rq M N q) (hM : 0 < M) : q.den ≤ M := by
  obtain ⟨k, rfl, b⟩ := h
  rw [← Rat.divInt_eq_div, Rat.den_divInt, if_neg (by omega)]
  exact Nat.le_trans (Nat.div_le_self _ _) (by simp)
theorem rq_sum {M N : Nat} : ∀ {l : List Rat}, (∀ x ∈ l, Rq M N x) → Rq M (N * l.length) (sumR l)
  | [], _ => Rq.zero
  | a :: l, h => by
    rw [sumR_cons]
    refine ((h a List.mem_cons_self).add (rq_sum fun x hx => h x (List.mem_cons_of_mem _ hx))).mono ?_
    rw [List.length_cons, Nat.mul_add]
    omega
/-- a row of the law -/
structure Rw (l : List Rat) : Prop where
  ne : l ≠ []
  few : l.length ≤ 6
  q : ∀ x ∈ l, Rq 24 2000 x
def meanR (l : List Rat) : Rat := sumR l / ((l.length : Nat) : Int)
theorem lenR_ne {l : List Rat} (h : l ≠ []) : (((l.length : Nat) : Int) : Rat) ≠ 0 := by
  have := List.length_pos_iff.mpr h
  intro z
  have z2 : (((l.length : Nat) : Int) : Rat) = ((0 : Int) : Rat) := z
  rw [Rat.intCast_inj] at z2
  omega
theorem frs_inj {xs ys : List Rat} (h : xs.map fr = ys.map fr) : xs = ys := (List.map_inj_right fun _ _ e => fr_inj.mp e).mp h
theorem Rw.mean {l : List Rat} (h : Rw l) : Rq (24 * l.length) 12000 (meanR l) := by
  obtain ⟨k, e, b⟩ := rq_sum h.q
  have few := h.few
  refine ⟨k, ?_, by have := Nat.mul_le_mul_left 2000 few; omega⟩
  unfold meanR
  rw [e]
  have n := lenR_ne h.ne
  have e2 : (((24 * l.length : Nat) : Int) : Rat) = 24 * (((l.length : Nat) : Int) : Rat) := by rw [Int.natCast_mul, Rat.intCast_mul]; rfl
  have e3 : (((24 : Nat) : Int) : Rat) = 24 := rfl
  rw [e2, e3]
  generalize (((l.length : Nat) : Int) : Rat) = y at *
  grind
theorem Rw.msz {l : List Rat} (h : Rw l) : Sz 14 (meanR l) := h.mean.sz (by omega) (by have := h.few; omega) (by omega)
theorem Rw.esz {l : List Rat} (h : Rw l) {x : Rat} (hx : x ∈ l) : Sz 12 x := (h.q x hx).sz (by omega) (by omega) (by omega)
/-- the sum of products about the means -/
def prR (l m : List Rat) : Rat := sumR ((l.zip m).map fun p => (p.1 - meanR l) * (p.2 - meanR m))
def at_ (l : List Rat) (j : Nat) : Rat := l.getD j 0
theorem at_get {l : List Rat} {j : Nat} (h : j < l.length) : l[j]? = some (at_ l j) := by unfold at_; simp [h]
theorem at_mem {l : List Rat} {j : Nat} (h : j < l.length) : at_ l j ∈ l := List.mem_of_getElem? (at_get h)
/-- numbers over one number, so that sums of six stay small -/
def Smm (l : List Rat) : Prop := ∃ M N : Nat, (0 < M ∧ M < 2 ^ 40 ∧ N < 2 ^ 60) ∧ ∀ x ∈ l, Rq M N x
theorem Rw.smm {l : List Rat} (h : Rw l) : Smm l := ⟨24, 2000, ⟨by omega, by omega, by omega⟩, h.q⟩
/-! ### tables -/
def rowD (l : List Rat) : D := .lst (l.map fr)
theorem rowD_inj {a b : List Rat} (h : rowD a = rowD b) : a = b := by
  simp only [rowD, D.lst.injEq] at h
  exact frs_inj h
theorem rows_inj {a b : List (List Rat)} (h : a.map rowD = b.map rowD) : a = b := (List.map_inj_right fun _ _ e => rowD_inj e).mp h
def tabD (T : List (List Rat)) : D := .lst (T.map rowD)
theorem tab_inj {a b : List (List Rat)} : tabD a = tabD b ↔ a = b := ⟨fun h => by simp only [tabD, D.lst.injEq] at h; exact rows_inj h, fun h => by rw [h]⟩
def wid (T : List (List Rat)) : Nat := (T.headD []).length
structure Tb (T : List (List Rat)) : Prop where
  ne : T ≠ []
  few : T.length ≤ 6
  m1 : 1 ≤ wid T
  m4 : wid T ≤ 4
  len : ∀ r ∈ T, r.length = wid T
  q : ∀ r ∈ T, ∀ x ∈ r, Rq 24 400 x
def colL (T : List (List Rat)) (q : Nat) : List Rat := T.map fun r => at_ r q
def totL (T : List (List Rat)) : List Rat := T.map sumR
def rstL (T : List (List Rat)) (q : Nat) : List Rat := T.map fun r => sumR r - at_ r q
def delT (T : List (List Rat)) (q : Nat) : List (List Rat) := T.map fun r => ((List.range r.length).filter fun k => k != q).map (at_ r)
def varR (l : List Rat) : Rat := prR l l / ((l.length : Nat) : Int)
def parV (T : List (List Rat)) : Rat := sumR ((List.range (wid T)).map fun q => varR (colL T q))
def relR (m : Nat) (p w : Rat) : Rat := ((m : Nat) : Int) / (((m : Nat) : Int) - 1 : Int) * (1 - p / w)
theorem Tb.smm {T : List (List Rat)} (h : Tb T) {r : List Rat} (hr : r ∈ T) : Smm r := ⟨24, 400, ⟨by omega, by omega, by omega⟩, h.q r hr⟩
theorem Tb.tot {T : List (List Rat)} (h : Tb T) {r : List Rat} (hr : r ∈ T) : Rq 24 1600 (sumR r) := by
  have := rq_sum (h.q r hr)
  refine this.mono ?_
  have := h.len r hr
  have := h.m4
  omega
theorem Tb.at {T : List (List Rat)} (h : Tb T) {r : List Rat} (hr : r ∈ T) {q : Nat} (hq : q < wid T) : Rq 24 400 (at_ r q) := h.q r hr _ (at_mem (by rw [h.len r hr]; exact hq))
theorem Tb.col {T : List (List Rat)} (h : Tb T) {q : Nat} (hq : q < wid T) : Rw (colL T q) := ⟨by simpa [colL] using h.ne, by simpa [colL] using h.few, fun x hx => by
  obtain ⟨r, hr, rfl⟩ := List.mem_map.mp hx
  exact (h.at hr hq).mono (by omega)⟩
theorem Tb.totw {T : List (List Rat)} (h : Tb T) : Rw (totL T) := ⟨by simpa [totL] using h.ne, by simpa [totL] using h.few, fun x hx => by
  obtain ⟨r, hr, rfl⟩ := List.mem_map.mp hx
  exact (h.tot hr).mono (by omega)⟩
theorem Tb.rst {T : List (List Rat)} (h : Tb T) {q : Nat} (hq : q < wid T) : Rw (rstL T q) := ⟨by simpa [rstL] using h.ne, by simpa [rstL] using h.few, fun x hx => by
  obtain ⟨r, hr, rfl⟩ := List.mem_map.mp hx
  exact ((h.tot hr).sub (h.at hr hq)).mono (by omega)⟩
theorem nat_cast_inj {a b : Nat} : (D.int (a : Nat) = D.int (b : Nat)) ↔ a = b := by
  rw [D.int.injEq]
  omega

def φ_l_draw : Fn := fun ds Q => match ds with
  | [.tape, .int many] => (0 < many ∧ many < 1073741824) ∧ ∀ d, 0 ≤ d → d < many → Q (.int d)
  | _ => False
theorem cl_l_draw (many : Int) (Q : D → Prop) : φ_l_draw [.tape, .int many] Q = ((0 < many ∧ many < 1073741824) ∧ ∀ d, 0 ≤ d → d < many → Q (.int d)) := rfl
def φ_fraction : Fn := fun ds Q => ∃ t b : Int, ds = [.int t, .int b] ∧ b ≠ 0 ∧ t.natAbs < 2 ^ 4000 ∧ b.natAbs < 2 ^ 4000 ∧ Q (fr (Rat.divInt t b))
theorem len_fraction (ds : List D) (Q : D → Prop) (h : φ_fraction ds Q) : ds.length = 2 := by obtain ⟨_, _, rfl, _⟩ := h; rfl
theorem cl_fraction (t b : Int) (Q : D → Prop) : φ_fraction [.int t, .int b] Q = (b ≠ 0 ∧ t.natAbs < 2 ^ 4000 ∧ b.natAbs < 2 ^ 4000 ∧ Q (fr (Rat.divInt t b))) := propext ⟨fun ⟨t', b', e, h⟩ => by simp only [List.cons.injEq, D.int.injEq, and_true] at e; obtain ⟨rfl, rfl⟩ := e; exact h, fun h => ⟨t, b, rfl, h⟩⟩
def ψ_fraction : List D → Prop := fun ds => ∃ t : Int, ds = [.int t, .int 0]
theorem lenx_fraction (ds : List D) (h : ψ_fraction ds) : ds.length = 2 := by obtain ⟨_, rfl⟩ := h; rfl
/-- fraction(top, bottom): slots 0=top 1=bottom 2=common -/
def F_fraction : FS :=
  (wSeq (wIfS (wTest (wBin dEq (wVar 1) (wC (.int 0))))
      wNever
      wNext)
    (wSeq (wIfS (wTest (wBin dLt (wVar 1) (wC (.int 0))))
      (wPar [0, 1] (wCons (wUn dNeg (wVar 0)) (wCons (wUn dNeg (wVar 1)) wNil)))
      wNext)
    (wSeq (wSet 2 (wCall bGcd (wCons (wVar 0) (wCons (wVar 1) wNil))))
    (wRet (wTup (wCons (wBin dFdiv (wVar 0) (wVar 2)) (wCons (wBin dFdiv (wVar 1) (wVar 2)) wNil)))))))
def FX_fraction : FX :=
  (fun env => (wTest (wBin dEq (wVar 1) (wC (.int 0)))) env fun b => b = true)

theorem r_fraction (ds : List D) (Q : D → Prop) (h : φ_fraction ds Q) : F_fraction (AEnds.fn Q) (startE 3 ds) := by
  obtain ⟨t, b, rfl, hb, h1, h2, q⟩ := h
  simp only [F_fraction, wSeq, wNext, wSet, wSetO, wAsg, wFrz, wRet, wRetN, wDrop, wIfS, wNever, wVar, wOwn, wC, wBin, wUn, wNil, wCons, wTup, wLst, wCall, dBool, wAndV, wOrV, wNotV, wIf, wChain, wTest, wAnd, wOr, wNot, wBind, bindT, setAll, wPar, wAug, wMut, wMutSet, wPut, mAppend, mExtend, wItems, wFor, wBreak, wCont, wWhile, wLc, wipeE, wSlice, wNoP, wP, startE, AEnds.law, AEnds.fn, wSetF, wFld, startI, AEnds.ini, wDict, dGet, kLook, keyD, wRng1, wRng2, wRngDown, wZip, wEnum, wRev, wPar3O, wListZip, wSliceT, wLenSet, wLm, mInsert, wSortedSet, wListRev, wChain3, List.getElem?_cons_zero, List.getElem?_cons_succ, List.set_cons_zero, List.set_cons_succ, List.map_cons, List.map_nil, List.cons_append, List.nil_append, List.length_cons, List.length_nil, List.replicate, Option.some.injEq, Slot.val.injEq, Slot.own.injEq, D.lst.injEq, exists_eq_left', exists_eq_left, exists_eq', true_and, and_true, Nat.reduceAdd, Nat.reduceSub, Nat.reduceLeDiff, Bool.false_eq_true, if_true, if_false, ↓reduceIte, Int.reduceMul, Int.reduceAdd, Int.reduceSub, Int.reduceNeg, Int.reduceLT, Int.reduceLE, Int.reduceEq, Nat.reduceMul, Nat.reduceLT, String.reduceEq, String.reduceNe, Int.reduceToNat, reduceCtorEq, Bool.not_true, Bool.not_false, Bool.true_or, Bool.or_true, Bool.false_or, Bool.or_false, Bool.true_and, Bool.and_true, Bool.false_and, Bool.and_false, Bool.not_eq_true', decide_eq_true_eq, decide_eq_false_iff_not, not_true_eq_false, not_false_eq_true, dSubB, dIn, dNotIn, flatD, List.all_cons, List.all_nil, List.any_cons, List.any_nil, dInt2, dSub, dFdiv, dMod, dLt, dLe, dGt, dGe, dPow, dNeg, dAdd, dMul, dEq, dNe, dIsN, dNotN, isNon_non, isNon_bl, isNon_int, isNon_str, isNon_tup, isNon_lst, isNon_fr, deq_non_non, deq_non_bl, deq_non_int, deq_non_str, deq_non_tup, deq_non_lst, deq_bl_non, deq_bl_bl, deq_bl_str, deq_bl_tup, deq_bl_lst, deq_int_non, deq_int_int, deq_int_str, deq_int_tup, deq_int_lst, deq_str_non, deq_str_bl, deq_str_int, deq_str_str, deq_str_tup, deq_str_lst, deq_tup_non, deq_tup_bl, deq_tup_int, deq_tup_str, deq_tup_tup, deq_tup_lst, deq_lst_non, deq_lst_bl, deq_lst_int, deq_lst_str, deq_lst_tup, deq_lst_lst, deqs_nil, deqs_cons, deqs_nil_cons, deqs_cons_nil, deq_fr_non, deq_non_fr, plain_non, plain_bl, plain_int, plain_lit, plains_nil, plains_cons, plain_lst20, plain_tup20, plain_lst19, plain_tup19, plain_tup18, plain_fr19, plain_fr18, deqs_frs, plains_frs19, decide_true, decide_false, ix0, ix1, deq_fr, plain_fr20, fr_def, fr_neg, fr_neg', okStr_lit, beq_lit, bLen, bAbs, bMax2, bMin2, bInt, bGcd, bList, bTuple, ofString_inj]
  refine ifF (by simpa using hb) ?_
  have hg : (t.natAbs.gcd b.natAbs) < 2 ^ 4000 := Nat.lt_of_le_of_lt (Nat.gcd_le_right _ (by omega)) h2
  have hg0 : 0 < t.natAbs.gcd b.natAbs := Nat.gcd_pos_of_pos_right _ (by omega)
  split
  · rename_i hn
    have hn : b < 0 := by simpa using hn
    simp only [Int.natAbs_neg]
    refine ⟨cd_of (n := 4000) (by omega) (by simpa using hg) (by omega), cd_of (n := 4000) (by omega) (by simpa using hg) (by omega), ?_⟩
    have e : fr (Rat.divInt t b) = D.tup [.int (-t / (t.natAbs.gcd b.natAbs : Nat)), .int (-b / (t.natAbs.gcd b.natAbs : Nat))] := by
      unfold fr
      rw [Rat.num_divInt, Rat.den_divInt, if_neg hb, Int.sign_eq_neg_one_of_neg hn, Int.gcd_comm]
      have h3 : (b.natAbs : Int) = -b := by omega
      rw [Int.natCast_ediv, h3]
      simp [Int.gcd]
    rw [← e]
    exact q
  · rename_i hn
    have hn : 0 < b := by
      have : ¬ b < 0 := by simpa using hn
      omega
    refine ⟨cd_of (n := 4000) (by omega) (by simpa using hg) (by omega), cd_of (n := 4000) (by omega) (by simpa using hg) (by omega), ?_⟩
    have e : fr (Rat.divInt t b) = D.tup [.int (t / (t.natAbs.gcd b.natAbs : Nat)), .int (b / (t.natAbs.gcd b.natAbs : Nat))] := by
      unfold fr
      rw [Rat.num_divInt, Rat.den_divInt, if_neg hb, Int.sign_eq_one_of_pos hn, Int.gcd_comm]
      have h3 : (b.natAbs : Int) = b := by omega
      rw [Int.natCast_ediv, h3]
      simp [Int.gcd]
    rw [← e]
    exact q
theorem rx_fraction (ds : List D) (h : ψ_fraction ds) : FX_fraction (startE 3 ds) := by
  obtain ⟨t, rfl⟩ := h
  simp only [FX_fraction, wSeq, wNext, wSet, wSetO, wAsg, wFrz, wRet, wRetN, wDrop, wIfS, wNever, wVar, wOwn, wC, wBin, wUn, wNil, wCons, wTup, wLst, wCall, dBool, wAndV, wOrV, wNotV, wIf, wChain, wTest, wAnd, wOr, wNot, wBind, bindT, setAll, wPar, wAug, wMut, wMutSet, wPut, mAppend, mExtend, wItems, wFor, wBreak, wCont, wWhile, wLc, wipeE, wSlice, wNoP, wP, startE, AEnds.law, AEnds.fn, wSetF, wFld, startI, AEnds.ini, wDict, dGet, kLook, keyD, wRng1, wRng2, wRngDown, wZip, wEnum, wRev, wPar3O, wListZip, wSliceT, wLenSet, wLm, mInsert, wSortedSet, wListRev, wChain3, List.getElem?_cons_zero, List.getElem?_cons_succ, List.set_cons_zero, List.set_cons_succ, List.map_cons, List.map_nil, List.cons_append, List.nil_append, List.length_cons, List.length_nil, List.replicate, Option.some.injEq, Slot.val.injEq, Slot.own.injEq, D.lst.injEq, exists_eq_left', exists_eq_left, exists_eq', true_and, and_true, Nat.reduceAdd, Nat.reduceSub, Nat.reduceLeDiff, Bool.false_eq_true, if_true, if_false, ↓reduceIte, Int.reduceMul, Int.reduceAdd, Int.reduceSub, Int.reduceNeg, Int.reduceLT, Int.reduceLE, Int.reduceEq, Nat.reduceMul, Nat.reduceLT, String.reduceEq, String.reduceNe, Int.reduceToNat, reduceCtorEq, Bool.not_true, Bool.not_false, Bool.true_or, Bool.or_true, Bool.false_or, Bool.or_false, Bool.true_and, Bool.and_true, Bool.false_and, Bool.and_false, Bool.not_eq_true', decide_eq_true_eq, decide_eq_false_iff_not, not_true_eq_false, not_false_eq_true, dSubB, dIn, dNotIn, flatD, List.all_cons, List.all_nil, List.any_cons, List.any_nil, dInt2, dSub, dFdiv, dMod, dLt, dLe, dGt, dGe, dPow, dNeg, dAdd, dMul, dEq, dNe, dIsN, dNotN, isNon_non, isNon_bl, isNon_int, isNon_str, isNon_tup, isNon_lst, isNon_fr, deq_non_non, deq_non_bl, deq_non_int, deq_non_str, deq_non_tup, deq_non_lst, deq_bl_non, deq_bl_bl, deq_bl_str, deq_bl_tup, deq_bl_lst, deq_int_non, deq_int_int, deq_int_str, deq_int_tup, deq_int_lst, deq_str_non, deq_str_bl, deq_str_int, deq_str_str, deq_str_tup, deq_str_lst, deq_tup_non, deq_tup_bl, deq_tup_int, deq_tup_str, deq_tup_tup, deq_tup_lst, deq_lst_non, deq_lst_bl, deq_lst_int, deq_lst_str, deq_lst_tup, deq_lst_lst, deqs_nil, deqs_cons, deqs_nil_cons, deqs_cons_nil, deq_fr_non, deq_non_fr, plain_non, plain_bl, plain_int, plain_lit, plains_nil, plains_cons, plain_lst20, plain_tup20, plain_lst19, plain_tup19, plain_tup18, plain_fr19, plain_fr18, deqs_frs, plains_frs19, decide_true, decide_false, ix0, ix1, deq_fr, plain_fr20, fr_def, fr_neg, fr_neg', okStr_lit, beq_lit, bLen, bAbs, bMax2, bMin2, bInt, bGcd, bList, bTuple, ofString_inj]
def φ_whole : Fn := fun ds Q => ∃ n : Int, ds = [.int n] ∧ Q (fr (n : Rat))
theorem len_whole (ds : List D) (Q : D → Prop) (h : φ_whole ds Q) : ds.length = 1 := by obtain ⟨_, rfl, _⟩ := h; rfl
theorem cl_whole (n : Int) (Q : D → Prop) : φ_whole [.int n] Q = Q (fr (n : Rat)) := propext ⟨fun ⟨t', e, h⟩ => by simp only [List.cons.injEq, D.int.injEq, and_true] at e; subst e; exact h, fun h => ⟨n, rfl, h⟩⟩
/-- whole(n): slots 0=n -/
def F_whole : FS :=
  (wRet (wTup (wCons (wVar 0) (wCons (wC (.int 1)) wNil))))

theorem r_whole (ds : List D) (Q : D → Prop) (h : φ_whole ds Q) : F_whole (AEnds.fn Q) (startE 1 ds) := by
  obtain ⟨n, rfl, q⟩ := h
  simp only [F_whole, wSeq, wNext, wSet, wSetO, wAsg, wFrz, wRet, wRetN, wDrop, wIfS, wNever, wVar, wOwn, wC, wBin, wUn, wNil, wCons, wTup, wLst, wCall, dBool, wAndV, wOrV, wNotV, wIf, wChain, wTest, wAnd, wOr, wNot, wBind, bindT, setAll, wPar, wAug, wMut, wMutSet, wPut, mAppend, mExtend, wItems, wFor, wBreak, wCont, wWhile, wLc, wipeE, wSlice, wNoP, wP, startE, AEnds.law, AEnds.fn, wSetF, wFld, startI, AEnds.ini, wDict, dGet, kLook, keyD, wRng1, wRng2, wRngDown, wZip, wEnum, wRev, wPar3O, wListZip, wSliceT, wLenSet, wLm, mInsert, wSortedSet, wListRev, wChain3, List.getElem?_cons_zero, List.getElem?_cons_succ, List.set_cons_zero, List.set_cons_succ, List.map_cons, List.map_nil, List.cons_append, List.nil_append, List.length_cons, List.length_nil, List.replicate, Option.some.injEq, Slot.val.injEq, Slot.own.injEq, D.lst.injEq, exists_eq_left', exists_eq_left, exists_eq', true_and, and_true, Nat.reduceAdd, Nat.reduceSub, Nat.reduceLeDiff, Bool.false_eq_true, if_true, if_false, ↓reduceIte, Int.reduceMul, Int.reduceAdd, Int.reduceSub, Int.reduceNeg, Int.reduceLT, Int.reduceLE, Int.reduceEq, Nat.reduceMul, Nat.reduceLT, String.reduceEq, String.reduceNe, Int.reduceToNat, reduceCtorEq, Bool.not_true, Bool.not_false, Bool.true_or, Bool.or_true, Bool.false_or, Bool.or_false, Bool.true_and, Bool.and_true, Bool.false_and, Bool.and_false, Bool.not_eq_true', decide_eq_true_eq, decide_eq_false_iff_not, not_true_eq_false, not_false_eq_true, dSubB, dIn, dNotIn, flatD, List.all_cons, List.all_nil, List.any_cons, List.any_nil, dInt2, dSub, dFdiv, dMod, dLt, dLe, dGt, dGe, dPow, dNeg, dAdd, dMul, dEq, dNe, dIsN, dNotN, isNon_non, isNon_bl, isNon_int, isNon_str, isNon_tup, isNon_lst, isNon_fr, deq_non_non, deq_non_bl, deq_non_int, deq_non_str, deq_non_tup, deq_non_lst, deq_bl_non, deq_bl_bl, deq_bl_str, deq_bl_tup, deq_bl_lst, deq_int_non, deq_int_int, deq_int_str, deq_int_tup, deq_int_lst, deq_str_non, deq_str_bl, deq_str_int, deq_str_str, deq_str_tup, deq_str_lst, deq_tup_non, deq_tup_bl, deq_tup_int, deq_tup_str, deq_tup_tup, deq_tup_lst, deq_lst_non, deq_lst_bl, deq_lst_int, deq_lst_str, deq_lst_tup, deq_lst_lst, deqs_nil, deqs_cons, deqs_nil_cons, deqs_cons_nil, deq_fr_non, deq_non_fr, plain_non, plain_bl, plain_int, plain_lit, plains_nil, plains_cons, plain_lst20, plain_tup20, plain_lst19, plain_tup19, plain_tup18, plain_fr19, plain_fr18, deqs_frs, plains_frs19, decide_true, decide_false, ix0, ix1, deq_fr, plain_fr20, fr_def, fr_neg, fr_neg', okStr_lit, beq_lit, bLen, bAbs, bMax2, bMin2, bInt, bGcd, bList, bTuple, ofString_inj, fr_int]
  exact q
def φ_add : Fn := fun ds Q => ∃ a b : Rat, ds = [fr a, fr b] ∧ Sz 1900 a ∧ Sz 1900 b ∧ Q (fr (a + b))
theorem len_add (ds : List D) (Q : D → Prop) (h : φ_add ds Q) : ds.length = 2 := by obtain ⟨_, _, rfl, _⟩ := h; rfl
theorem cl_add (a b : Rat) (Q : D → Prop) : φ_add [fr a, fr b] Q = (Sz 1900 a ∧ Sz 1900 b ∧ Q (fr (a + b))) := propext ⟨fun ⟨t', b', e, h⟩ => by simp only [List.cons.injEq, fr_inj, and_true] at e; obtain ⟨rfl, rfl⟩ := e; exact h, fun h => ⟨a, b, rfl, h⟩⟩
/-- add(a, b): slots 0=a 1=b -/
def F_add : FS :=
  (wRet (wCall φ_fraction (wCons (wBin dAdd (wBin dMul (wBin dIx (wVar 0) (wC (.int 0))) (wBin dIx (wVar 1) (wC (.int 1)))) (wBin dMul (wBin dIx (wVar 1) (wC (.int 0))) (wBin dIx (wVar 0) (wC (.int 1))))) (wCons (wBin dMul (wBin dIx (wVar 0) (wC (.int 1))) (wBin dIx (wVar 1) (wC (.int 1)))) wNil))))

theorem r_add (ds : List D) (Q : D → Prop) (h : φ_add ds Q) : F_add (AEnds.fn Q) (startE 2 ds) := by
  obtain ⟨a, b, rfl, ha, hb, q⟩ := h
  simp only [F_add, wSeq, wNext, wSet, wSetO, wAsg, wFrz, wRet, wRetN, wDrop, wIfS, wNever, wVar, wOwn, wC, wBin, wUn, wNil, wCons, wTup, wLst, wCall, dBool, wAndV, wOrV, wNotV, wIf, wChain, wTest, wAnd, wOr, wNot, wBind, bindT, setAll, wPar, wAug, wMut, wMutSet, wPut, mAppend, mExtend, wItems, wFor, wBreak, wCont, wWhile, wLc, wipeE, wSlice, wNoP, wP, startE, AEnds.law, AEnds.fn, wSetF, wFld, startI, AEnds.ini, wDict, dGet, kLook, keyD, wRng1, wRng2, wRngDown, wZip, wEnum, wRev, wPar3O, wListZip, wSliceT, wLenSet, wLm, mInsert, wSortedSet, wListRev, wChain3, List.getElem?_cons_zero, List.getElem?_cons_succ, List.set_cons_zero, List.set_cons_succ, List.map_cons, List.map_nil, List.cons_append, List.nil_append, List.length_cons, List.length_nil, List.replicate, Option.some.injEq, Slot.val.injEq, Slot.own.injEq, D.lst.injEq, exists_eq_left', exists_eq_left, exists_eq', true_and, and_true, Nat.reduceAdd, Nat.reduceSub, Nat.reduceLeDiff, Bool.false_eq_true, if_true, if_false, ↓reduceIte, Int.reduceMul, Int.reduceAdd, Int.reduceSub, Int.reduceNeg, Int.reduceLT, Int.reduceLE, Int.reduceEq, Nat.reduceMul, Nat.reduceLT, String.reduceEq, String.reduceNe, Int.reduceToNat, reduceCtorEq, Bool.not_true, Bool.not_false, Bool.true_or, Bool.or_true, Bool.false_or, Bool.or_false, Bool.true_and, Bool.and_true, Bool.false_and, Bool.and_false, Bool.not_eq_true', decide_eq_true_eq, decide_eq_false_iff_not, not_true_eq_false, not_false_eq_true, dSubB, dIn, dNotIn, flatD, List.all_cons, List.all_nil, List.any_cons, List.any_nil, dInt2, dSub, dFdiv, dMod, dLt, dLe, dGt, dGe, dPow, dNeg, dAdd, dMul, dEq, dNe, dIsN, dNotN, isNon_non, isNon_bl, isNon_int, isNon_str, isNon_tup, isNon_lst, isNon_fr, deq_non_non, deq_non_bl, deq_non_int, deq_non_str, deq_non_tup, deq_non_lst, deq_bl_non, deq_bl_bl, deq_bl_str, deq_bl_tup, deq_bl_lst, deq_int_non, deq_int_int, deq_int_str, deq_int_tup, deq_int_lst, deq_str_non, deq_str_bl, deq_str_int, deq_str_str, deq_str_tup, deq_str_lst, deq_tup_non, deq_tup_bl, deq_tup_int, deq_tup_str, deq_tup_tup, deq_tup_lst, deq_lst_non, deq_lst_bl, deq_lst_int, deq_lst_str, deq_lst_tup, deq_lst_lst, deqs_nil, deqs_cons, deqs_nil_cons, deqs_cons_nil, deq_fr_non, deq_non_fr, plain_non, plain_bl, plain_int, plain_lit, plains_nil, plains_cons, plain_lst20, plain_tup20, plain_lst19, plain_tup19, plain_tup18, plain_fr19, plain_fr18, deqs_frs, plains_frs19, decide_true, decide_false, ix0, ix1, deq_fr, plain_fr20, fr_def, fr_neg, fr_neg', okStr_lit, beq_lit, bLen, bAbs, bMax2, bMin2, bInt, bGcd, bList, bTuple, ofString_inj]
  have n1 := natAbs_mul_lt ha.num (den_lt hb)
  have n2 := natAbs_mul_lt hb.num (den_lt ha)
  have n3 := natAbs_mul_lt (den_lt ha) (den_lt hb)
  have n4 := natAbs_mul_lt ha.num hb.num
  have pp : (2 : Nat) ^ (1900 + 1900) + 2 ^ (1900 + 1900) ≤ 2 ^ 4000 := Nat.le_trans (by rw [← Nat.two_mul, ← Nat.pow_succ']; exact Nat.le_refl _) (pow_mono (show 1900 + 1900 + 1 ≤ 4000 by omega))
  have d0 : (a.den : Int) * b.den ≠ 0 := Int.mul_ne_zero (by have := a.den_nz; omega) (by have := b.den_nz; omega)
  rw [add_eq_divInt] at q
  rw [Int.natCast_mul] at q
  exact ⟨cm_of (n := 1900) (m := 1900) ha.num (den_lt hb) (by omega), cm_of (n := 1900) (m := 1900) hb.num (den_lt ha) (by omega), cm_of (n := 1900) (m := 1900) (den_lt ha) (den_lt hb) (by omega), _, _, rfl, d0, by omega, by omega, q⟩
def φ_minus : Fn := fun ds Q => ∃ a b : Rat, ds = [fr a, fr b] ∧ Sz 1900 a ∧ Sz 1900 b ∧ Q (fr (a - b))
theorem len_minus (ds : List D) (Q : D → Prop) (h : φ_minus ds Q) : ds.length = 2 := by obtain ⟨_, _, rfl, _⟩ := h; rfl
theorem cl_minus (a b : Rat) (Q : D → Prop) : φ_minus [fr a, fr b] Q = (Sz 1900 a ∧ Sz 1900 b ∧ Q (fr (a - b))) := propext ⟨fun ⟨t', b', e, h⟩ => by simp only [List.cons.injEq, fr_inj, and_true] at e; obtain ⟨rfl, rfl⟩ := e; exact h, fun h => ⟨a, b, rfl, h⟩⟩
/-- minus(a, b): slots 0=a 1=b -/
def F_minus : FS :=
  (wRet (wCall φ_fraction (wCons (wBin dSub (wBin dMul (wBin dIx (wVar 0) (wC (.int 0))) (wBin dIx (wVar 1) (wC (.int 1)))) (wBin dMul (wBin dIx (wVar 1) (wC (.int 0))) (wBin dIx (wVar 0) (wC (.int 1))))) (wCons (wBin dMul (wBin dIx (wVar 0) (wC (.int 1))) (wBin dIx (wVar 1) (wC (.int 1)))) wNil))))

theorem r_minus (ds : List D) (Q : D → Prop) (h : φ_minus ds Q) : F_minus (AEnds.fn Q) (startE 2 ds) := by
  obtain ⟨a, b, rfl, ha, hb, q⟩ := h
  simp only [F_minus, wSeq, wNext, wSet, wSetO, wAsg, wFrz, wRet, wRetN, wDrop, wIfS, wNever, wVar, wOwn, wC, wBin, wUn, wNil, wCons, wTup, wLst, wCall, dBool, wAndV, wOrV, wNotV, wIf, wChain, wTest, wAnd, wOr, wNot, wBind, bindT, setAll, wPar, wAug, wMut, wMutSet, wPut, mAppend, mExtend, wItems, wFor, wBreak, wCont, wWhile, wLc, wipeE, wSlice, wNoP, wP, startE, AEnds.law, AEnds.fn, wSetF, wFld, startI, AEnds.ini, wDict, dGet, kLook, keyD, wRng1, wRng2, wRngDown, wZip, wEnum, wRev, wPar3O, wListZip, wSliceT, wLenSet, wLm, mInsert, wSortedSet, wListRev, wChain3, List.getElem?_cons_zero, List.getElem?_cons_succ, List.set_cons_zero, List.set_cons_succ, List.map_cons, List.map_nil, List.cons_append, List.nil_append, List.length_cons, List.length_nil, List.replicate, Option.some.injEq, Slot.val.injEq, Slot.own.injEq, D.lst.injEq, exists_eq_left', exists_eq_left, exists_eq', true_and, and_true, Nat.reduceAdd, Nat.reduceSub, Nat.reduceLeDiff, Bool.false_eq_true, if_true, if_false, ↓reduceIte, Int.reduceMul, Int.reduceAdd, Int.reduceSub, Int.reduceNeg, Int.reduceLT, Int.reduceLE, Int.reduceEq, Nat.reduceMul, Nat.reduceLT, String.reduceEq, String.reduceNe, Int.reduceToNat, reduceCtorEq, Bool.not_true, Bool.not_false, Bool.true_or, Bool.or_true, Bool.false_or, Bool.or_false, Bool.true_and, Bool.and_true, Bool.false_and, Bool.and_false, Bool.not_eq_true', decide_eq_true_eq, decide_eq_false_iff_not, not_true_eq_false, not_false_eq_true, dSubB, dIn, dNotIn, flatD, List.all_cons, List.all_nil, List.any_cons, List.any_nil, dInt2, dSub, dFdiv, dMod, dLt, dLe, dGt, dGe, dPow, dNeg, dAdd, dMul, dEq, dNe, dIsN, dNotN, isNon_non, isNon_bl, isNon_int, isNon_str, isNon_tup, isNon_lst, isNon_fr, deq_non_non, deq_non_bl, deq_non_int, deq_non_str, deq_non_tup, deq_non_lst, deq_bl_non, deq_bl_bl, deq_bl_str, deq_bl_tup, deq_bl_lst, deq_int_non, deq_int_int, deq_int_str, deq_int_tup, deq_int_lst, deq_str_non, deq_str_bl, deq_str_int, deq_str_str, deq_str_tup, deq_str_lst, deq_tup_non, deq_tup_bl, deq_tup_int, deq_tup_str, deq_tup_tup, deq_tup_lst, deq_lst_non, deq_lst_bl, deq_lst_int, deq_lst_str, deq_lst_tup, deq_lst_lst, deqs_nil, deqs_cons, deqs_nil_cons, deqs_cons_nil, deq_fr_non, deq_non_fr, plain_non, plain_bl, plain_int, plain_lit, plains_nil, plains_cons, plain_lst20, plain_tup20, plain_lst19, plain_tup19, plain_tup18, plain_fr19, plain_fr18, deqs_frs, plains_frs19, decide_true, decide_false, ix0, ix1, deq_fr, plain_fr20, fr_def, fr_neg, fr_neg', okStr_lit, beq_lit, bLen, bAbs, bMax2, bMin2, bInt, bGcd, bList, bTuple, ofString_inj]
  have n1 := natAbs_mul_lt ha.num (den_lt hb)
  have n2 := natAbs_mul_lt hb.num (den_lt ha)
  have n3 := natAbs_mul_lt (den_lt ha) (den_lt hb)
  have n4 := natAbs_mul_lt ha.num hb.num
  have pp : (2 : Nat) ^ (1900 + 1900) + 2 ^ (1900 + 1900) ≤ 2 ^ 4000 := Nat.le_trans (by rw [← Nat.two_mul, ← Nat.pow_succ']; exact Nat.le_refl _) (pow_mono (show 1900 + 1900 + 1 ≤ 4000 by omega))
  have d0 : (a.den : Int) * b.den ≠ 0 := Int.mul_ne_zero (by have := a.den_nz; omega) (by have := b.den_nz; omega)
  rw [sub_eq_divInt] at q
  rw [Int.natCast_mul] at q
  exact ⟨cm_of (n := 1900) (m := 1900) ha.num (den_lt hb) (by omega), cm_of (n := 1900) (m := 1900) hb.num (den_lt ha) (by omega), cm_of (n := 1900) (m := 1900) (den_lt ha) (den_lt hb) (by omega), _, _, rfl, d0, by omega, by omega, q⟩
def φ_times : Fn := fun ds Q => ∃ a b : Rat, ds = [fr a, fr b] ∧ Sz 1900 a ∧ Sz 1900 b ∧ Q (fr (a * b))
theorem len_times (ds : List D) (Q : D → Prop) (h : φ_times ds Q) : ds.length = 2 := by obtain ⟨_, _, rfl, _⟩ := h; rfl
theorem cl_times (a b : Rat) (Q : D → Prop) : φ_times [fr a, fr b] Q = (Sz 1900 a ∧ Sz 1900 b ∧ Q (fr (a * b))) := propext ⟨fun ⟨t', b', e, h⟩ => by simp only [List.cons.injEq, fr_inj, and_true] at e; obtain ⟨rfl, rfl⟩ := e; exact h, fun h => ⟨a, b, rfl, h⟩⟩
/-- times(a, b): slots 0=a 1=b -/
def F_times : FS :=
  (wRet (wCall φ_fraction (wCons (wBin dMul (wBin dIx (wVar 0) (wC (.int 0))) (wBin dIx (wVar 1) (wC (.int 0)))) (wCons (wBin dMul (wBin dIx (wVar 0) (wC (.int 1))) (wBin dIx (wVar 1) (wC (.int 1)))) wNil))))

theorem r_times (ds : List D) (Q : D → Prop) (h : φ_times ds Q) : F_times (AEnds.fn Q) (startE 2 ds) := by
  obtain ⟨a, b, rfl, ha, hb, q⟩ := h
  simp only [F_times, wSeq, wNext, wSet, wSetO, wAsg, wFrz, wRet, wRetN, wDrop, wIfS, wNever, wVar, wOwn, wC, wBin, wUn, wNil, wCons, wTup, wLst, wCall, dBool, wAndV, wOrV, wNotV, wIf, wChain, wTest, wAnd, wOr, wNot, wBind, bindT, setAll, wPar, wAug, wMut, wMutSet, wPut, mAppend, mExtend, wItems, wFor, wBreak, wCont, wWhile, wLc, wipeE, wSlice, wNoP, wP, startE, AEnds.law, AEnds.fn, wSetF, wFld, startI, AEnds.ini, wDict, dGet, kLook, keyD, wRng1, wRng2, wRngDown, wZip, wEnum, wRev, wPar3O, wListZip, wSliceT, wLenSet, wLm, mInsert, wSortedSet, wListRev, wChain3, List.getElem?_cons_zero, List.getElem?_cons_succ, List.set_cons_zero, List.set_cons_succ, List.map_cons, List.map_nil, List.cons_append, List.nil_append, List.length_cons, List.length_nil, List.replicate, Option.some.injEq, Slot.val.injEq, Slot.own.injEq, D.lst.injEq, exists_eq_left', exists_eq_left, exists_eq', true_and, and_true, Nat.reduceAdd, Nat.reduceSub, Nat.reduceLeDiff, Bool.false_eq_true, if_true, if_false, ↓reduceIte, Int.reduceMul, Int.reduceAdd, Int.reduceSub, Int.reduceNeg, Int.reduceLT, Int.reduceLE, Int.reduceEq, Nat.reduceMul, Nat.reduceLT, String.reduceEq, String.reduceNe, Int.reduceToNat, reduceCtorEq, Bool.not_true, Bool.not_false, Bool.true_or, Bool.or_true, Bool.false_or, Bool.or_false, Bool.true_and, Bool.and_true, Bool.false_and, Bool.and_false, Bool.not_eq_true', decide_eq_true_eq, decide_eq_false_iff_not, not_true_eq_false, not_false_eq_true, dSubB, dIn, dNotIn, flatD, List.all_cons, List.all_nil, List.any_cons, List.any_nil, dInt2, dSub, dFdiv, dMod, dLt, dLe, dGt, dGe, dPow, dNeg, dAdd, dMul, dEq, dNe, dIsN, dNotN, isNon_non, isNon_bl, isNon_int, isNon_str, isNon_tup, isNon_lst, isNon_fr, deq_non_non, deq_non_bl, deq_non_int, deq_non_str, deq_non_tup, deq_non_lst, deq_bl_non, deq_bl_bl, deq_bl_str, deq_bl_tup, deq_bl_lst, deq_int_non, deq_int_int, deq_int_str, deq_int_tup, deq_int_lst, deq_str_non, deq_str_bl, deq_str_int, deq_str_str, deq_str_tup, deq_str_lst, deq_tup_non, deq_tup_bl, deq_tup_int, deq_tup_str, deq_tup_tup, deq_tup_lst, deq_lst_non, deq_lst_bl, deq_lst_int, deq_lst_str, deq_lst_tup, deq_lst_lst, deqs_nil, deqs_cons, deqs_nil_cons, deqs_cons_nil, deq_fr_non, deq_non_fr, plain_non, plain_bl, plain_int, plain_lit, plains_nil, plains_cons, plain_lst20, plain_tup20, plain_lst19, plain_tup19, plain_tup18, plain_fr19, plain_fr18, deqs_frs, plains_frs19, decide_true, decide_false, ix0, ix1, deq_fr, plain_fr20, fr_def, fr_neg, fr_neg', okStr_lit, beq_lit, bLen, bAbs, bMax2, bMin2, bInt, bGcd, bList, bTuple, ofString_inj]
  have n1 := natAbs_mul_lt ha.num (den_lt hb)
  have n2 := natAbs_mul_lt hb.num (den_lt ha)
  have n3 := natAbs_mul_lt (den_lt ha) (den_lt hb)
  have n4 := natAbs_mul_lt ha.num hb.num
  have pp : (2 : Nat) ^ (1900 + 1900) + 2 ^ (1900 + 1900) ≤ 2 ^ 4000 := Nat.le_trans (by rw [← Nat.two_mul, ← Nat.pow_succ']; exact Nat.le_refl _) (pow_mono (show 1900 + 1900 + 1 ≤ 4000 by omega))
  have d0 : (a.den : Int) * b.den ≠ 0 := Int.mul_ne_zero (by have := a.den_nz; omega) (by have := b.den_nz; omega)
  rw [mul_eq_divInt] at q
  rw [Int.natCast_mul] at q
  exact ⟨cm_of (n := 1900) (m := 1900) ha.num hb.num (by omega), cm_of (n := 1900) (m := 1900) (den_lt ha) (den_lt hb) (by omega), _, _, rfl, d0, by omega, by omega, q⟩
def φ_over : Fn := fun ds Q => ∃ a b : Rat, ds = [fr a, fr b] ∧ b ≠ 0 ∧ Sz 1900 a ∧ Sz 1900 b ∧ Q (fr (a / b))
theorem len_over (ds : List D) (Q : D → Prop) (h : φ_over ds Q) : ds.length = 2 := by obtain ⟨_, _, rfl, _⟩ := h; rfl
theorem cl_over (a b : Rat) (Q : D → Prop) : φ_over [fr a, fr b] Q = (b ≠ 0 ∧ Sz 1900 a ∧ Sz 1900 b ∧ Q (fr (a / b))) := propext ⟨fun ⟨t', b', e, h⟩ => by simp only [List.cons.injEq, fr_inj, and_true] at e; obtain ⟨rfl, rfl⟩ := e; exact h, fun h => ⟨a, b, rfl, h⟩⟩
def ψ_over : List D → Prop := fun ds => ∃ a : Rat, ds = [fr a, fr 0] ∧ Sz 1900 a
theorem lenx_over (ds : List D) (h : ψ_over ds) : ds.length = 2 := by obtain ⟨_, rfl, _⟩ := h; rfl
/-- over(a, b): slots 0=a 1=b -/
def F_over : FS :=
  (wRet (wCall φ_fraction (wCons (wBin dMul (wBin dIx (wVar 0) (wC (.int 0))) (wBin dIx (wVar 1) (wC (.int 1)))) (wCons (wBin dMul (wBin dIx (wVar 0) (wC (.int 1))) (wBin dIx (wVar 1) (wC (.int 0)))) wNil))))
def FX_over : FX :=
  (fun env => (wCons (wBin dMul (wBin dIx (wVar 0) (wC (.int 0))) (wBin dIx (wVar 1) (wC (.int 1)))) (wCons (wBin dMul (wBin dIx (wVar 0) (wC (.int 1))) (wBin dIx (wVar 1) (wC (.int 0)))) wNil)) env ψ_fraction)

theorem r_over (ds : List D) (Q : D → Prop) (h : φ_over ds Q) : F_over (AEnds.fn Q) (startE 2 ds) := by
  obtain ⟨a, b, rfl, b0, ha, hb, q⟩ := h
  simp only [F_over, wSeq, wNext, wSet, wSetO, wAsg, wFrz, wRet, wRetN, wDrop, wIfS, wNever, wVar, wOwn, wC, wBin, wUn, wNil, wCons, wTup, wLst, wCall, dBool, wAndV, wOrV, wNotV, wIf, wChain, wTest, wAnd, wOr, wNot, wBind, bindT, setAll, wPar, wAug, wMut, wMutSet, wPut, mAppend, mExtend, wItems, wFor, wBreak, wCont, wWhile, wLc, wipeE, wSlice, wNoP, wP, startE, AEnds.law, AEnds.fn, wSetF, wFld, startI, AEnds.ini, wDict, dGet, kLook, keyD, wRng1, wRng2, wRngDown, wZip, wEnum, wRev, wPar3O, wListZip, wSliceT, wLenSet, wLm, mInsert, wSortedSet, wListRev, wChain3, List.getElem?_cons_zero, List.getElem?_cons_succ, List.set_cons_zero, List.set_cons_succ, List.map_cons, List.map_nil, List.cons_append, List.nil_append, List.length_cons, List.length_nil, List.replicate, Option.some.injEq, Slot.val.injEq, Slot.own.injEq, D.lst.injEq, exists_eq_left', exists_eq_left, exists_eq', true_and, and_true, Nat.reduceAdd, Nat.reduceSub, Nat.reduceLeDiff, Bool.false_eq_true, if_true, if_false, ↓reduceIte, Int.reduceMul, Int.reduceAdd, Int.reduceSub, Int.reduceNeg, Int.reduceLT, Int.reduceLE, Int.reduceEq, Nat.reduceMul, Nat.reduceLT, String.reduceEq, String.reduceNe, Int.reduceToNat, reduceCtorEq, Bool.not_true, Bool.not_false, Bool.true_or, Bool.or_true, Bool.false_or, Bool.or_false, Bool.true_and, Bool.and_true, Bool.false_and, Bool.and_false, Bool.not_eq_true', decide_eq_true_eq, decide_eq_false_iff_not, not_true_eq_false, not_false_eq_true, dSubB, dIn, dNotIn, flatD, List.all_cons, List.all_nil, List.any_cons, List.any_nil, dInt2, dSub, dFdiv, dMod, dLt, dLe, dGt, dGe, dPow, dNeg, dAdd, dMul, dEq, dNe, dIsN, dNotN, isNon_non, isNon_bl, isNon_int, isNon_str, isNon_tup, isNon_lst, isNon_fr, deq_non_non, deq_non_bl, deq_non_int, deq_non_str, deq_non_tup, deq_non_lst, deq_bl_non, deq_bl_bl, deq_bl_str, deq_bl_tup, deq_bl_lst, deq_int_non, deq_int_int, deq_int_str, deq_int_tup, deq_int_lst, deq_str_non, deq_str_bl, deq_str_int, deq_str_str, deq_str_tup, deq_str_lst, deq_tup_non, deq_tup_bl, deq_tup_int, deq_tup_str, deq_tup_tup, deq_tup_lst, deq_lst_non, deq_lst_bl, deq_lst_int, deq_lst_str, deq_lst_tup, deq_lst_lst, deqs_nil, deqs_cons, deqs_nil_cons, deqs_cons_nil, deq_fr_non, deq_non_fr, plain_non, plain_bl, plain_int, plain_lit, plains_nil, plains_cons, plain_lst20, plain_tup20, plain_lst19, plain_tup19, plain_tup18, plain_fr19, plain_fr18, deqs_frs, plains_frs19, decide_true, decide_false, ix0, ix1, deq_fr, plain_fr20, fr_def, fr_neg, fr_neg', okStr_lit, beq_lit, bLen, bAbs, bMax2, bMin2, bInt, bGcd, bList, bTuple, ofString_inj]
  have n1 := natAbs_mul_lt ha.num (den_lt hb)
  have n2 := natAbs_mul_lt (den_lt ha) hb.num
  have pp : (2 : Nat) ^ (1900 + 1900) ≤ 2 ^ 4000 := pow_mono (show 1900 + 1900 ≤ 4000 by omega)
  have d0 : (a.den : Int) * b.num ≠ 0 := Int.mul_ne_zero (by have := a.den_nz; omega) (fun z => b0 (Rat.num_eq_zero.mp z))
  rw [div_eq_divInt] at q
  exact ⟨cm_of (n := 1900) (m := 1900) ha.num (den_lt hb) (by omega), cm_of (n := 1900) (m := 1900) (den_lt ha) hb.num (by omega), _, _, rfl, d0, by omega, by omega, q⟩
theorem rx_over (ds : List D) (h : ψ_over ds) : FX_over (startE 2 ds) := by
  obtain ⟨a, rfl, ha⟩ := h
  simp only [FX_over, wSeq, wNext, wSet, wSetO, wAsg, wFrz, wRet, wRetN, wDrop, wIfS, wNever, wVar, wOwn, wC, wBin, wUn, wNil, wCons, wTup, wLst, wCall, dBool, wAndV, wOrV, wNotV, wIf, wChain, wTest, wAnd, wOr, wNot, wBind, bindT, setAll, wPar, wAug, wMut, wMutSet, wPut, mAppend, mExtend, wItems, wFor, wBreak, wCont, wWhile, wLc, wipeE, wSlice, wNoP, wP, startE, AEnds.law, AEnds.fn, wSetF, wFld, startI, AEnds.ini, wDict, dGet, kLook, keyD, wRng1, wRng2, wRngDown, wZip, wEnum, wRev, wPar3O, wListZip, wSliceT, wLenSet, wLm, mInsert, wSortedSet, wListRev, wChain3, List.getElem?_cons_zero, List.getElem?_cons_succ, List.set_cons_zero, List.set_cons_succ, List.map_cons, List.map_nil, List.cons_append, List.nil_append, List.length_cons, List.length_nil, List.replicate, Option.some.injEq, Slot.val.injEq, Slot.own.injEq, D.lst.injEq, exists_eq_left', exists_eq_left, exists_eq', true_and, and_true, Nat.reduceAdd, Nat.reduceSub, Nat.reduceLeDiff, Bool.false_eq_true, if_true, if_false, ↓reduceIte, Int.reduceMul, Int.reduceAdd, Int.reduceSub, Int.reduceNeg, Int.reduceLT, Int.reduceLE, Int.reduceEq, Nat.reduceMul, Nat.reduceLT, String.reduceEq, String.reduceNe, Int.reduceToNat, reduceCtorEq, Bool.not_true, Bool.not_false, Bool.true_or, Bool.or_true, Bool.false_or, Bool.or_false, Bool.true_and, Bool.and_true, Bool.false_and, Bool.and_false, Bool.not_eq_true', decide_eq_true_eq, decide_eq_false_iff_not, not_true_eq_false, not_false_eq_true, dSubB, dIn, dNotIn, flatD, List.all_cons, List.all_nil, List.any_cons, List.any_nil, dInt2, dSub, dFdiv, dMod, dLt, dLe, dGt, dGe, dPow, dNeg, dAdd, dMul, dEq, dNe, dIsN, dNotN, isNon_non, isNon_bl, isNon_int, isNon_str, isNon_tup, isNon_lst, isNon_fr, deq_non_non, deq_non_bl, deq_non_int, deq_non_str, deq_non_tup, deq_non_lst, deq_bl_non, deq_bl_bl, deq_bl_str, deq_bl_tup, deq_bl_lst, deq_int_non, deq_int_int, deq_int_str, deq_int_tup, deq_int_lst, deq_str_non, deq_str_bl, deq_str_int, deq_str_str, deq_str_tup, deq_str_lst, deq_tup_non, deq_tup_bl, deq_tup_int, deq_tup_str, deq_tup_tup, deq_tup_lst, deq_lst_non, deq_lst_bl, deq_lst_int, deq_lst_str, deq_lst_tup, deq_lst_lst, deqs_nil, deqs_cons, deqs_nil_cons, deqs_cons_nil, deq_fr_non, deq_non_fr, plain_non, plain_bl, plain_int, plain_lit, plains_nil, plains_cons, plain_lst20, plain_tup20, plain_lst19, plain_tup19, plain_tup18, plain_fr19, plain_fr18, deqs_frs, plains_frs19, decide_true, decide_false, ix0, ix1, deq_fr, plain_fr20, fr_def, fr_neg, fr_neg', okStr_lit, beq_lit, bLen, bAbs, bMax2, bMin2, bInt, bGcd, bList, bTuple, ofString_inj]
  have z0 : (0 : Rat).num = 0 := rfl
  have z1 : (0 : Rat).den = 1 := rfl
  simp only [z0, z1]
  exact ⟨.inr (.inl ⟨by omega, by omega⟩), .inr (.inl ⟨by omega, by omega⟩), a.num * ((1 : Nat) : Int), by rw [Int.mul_zero]⟩
def φ_total_of : Fn := fun ds Q => ∃ l : List Rat, ds = [.lst (l.map fr)] ∧ l.length ≤ 6 ∧ Smm l ∧ Q (fr (sumR l))
theorem len_total_of (ds : List D) (Q : D → Prop) (h : φ_total_of ds Q) : ds.length = 1 := by obtain ⟨_, rfl, _⟩ := h; rfl
theorem cl_total_of (l : List Rat) (Q : D → Prop) : φ_total_of [.lst (l.map fr)] Q = (l.length ≤ 6 ∧ Smm l ∧ Q (fr (sumR l))) := propext ⟨fun ⟨t, e, h⟩ => by simp only [List.cons.injEq, D.lst.injEq, and_true] at e; rw [frs_inj e]; exact h, fun h => ⟨l, rfl, h⟩⟩
/-- total_of(fractions): slots 0=fractions 1=found 2=one -/
def F_total_of : FS :=
  (wSeq (wSet 1 (wC c_ZERO))
    (wSeq (wFor (.name 2) (wItems (wVar 0))
      (wSet 1 (wCall φ_add (wCons (wVar 1) (wCons (wVar 2) wNil)))))
    (wRet (wVar 1))))

theorem total_loop (A : AEnds) {s0 : Slot} {M N : Nat} (hM : 0 < M ∧ M < 2 ^ 40 ∧ N < 2 ^ 60) : ∀ (l : List Rat) (a : Rat) (n : Nat) (s2 : Slot), Rq M (N * n) a → n + l.length ≤ 6 → (∀ x ∈ l, Rq M N x) → (∀ s2 : Slot, A.nx [s0, .val (fr (a + sumR l)), s2]) →
    wForL (.name 2) (wSet 1 (wCall φ_add (wCons (wVar 1) (wCons (wVar 2) wNil)))) (l.map fr) A [s0, .val (fr a), s2]
  | [], a, n, s2, _, _, _, q => by
    have := q s2
    rw [show a + sumR [] = a by show a + 0 = a; grind] at this
    exact this
  | b :: l, a, n, s2, ha, hl, h, q => by
    have hb := h b List.mem_cons_self
    simp only [List.length_cons] at hl
    have nb : N * n < 2 ^ 63 := Nat.lt_of_le_of_lt (Nat.mul_le_mul_left N (show n ≤ 6 by omega)) (by omega)
    have sa : Sz 1900 a := (ha.sz (n := 63) nb (by omega) (by omega)).mono (by omega)
    have sb : Sz 1900 b := (hb.sz (n := 63) (by omega) (by omega) (by omega)).mono (by omega)
    rw [List.map_cons]
    unfold wForL
    simp only [wBind, bindT, wSet, wCall, wCons, wNil, wVar, List.getElem?_cons_zero, List.getElem?_cons_succ, List.set_cons_zero, List.set_cons_succ, List.map_cons, List.map_nil, List.cons_append, List.nil_append, List.length_cons, List.length_nil, List.replicate, Option.some.injEq, Slot.val.injEq, Slot.own.injEq, D.lst.injEq, exists_eq_left', exists_eq_left, exists_eq', true_and, and_true, Nat.reduceAdd, Nat.reduceSub, Nat.reduceLeDiff, Bool.false_eq_true, if_true, if_false, ↓reduceIte, Int.reduceMul, Int.reduceAdd, Int.reduceSub, Int.reduceNeg, Int.reduceLT, Int.reduceLE, Int.reduceEq, Nat.reduceMul, Nat.reduceLT, String.reduceEq, String.reduceNe, Int.reduceToNat, reduceCtorEq, Bool.not_true, Bool.not_false, Bool.true_or, Bool.or_true, Bool.false_or, Bool.or_false, Bool.true_and, Bool.and_true, Bool.false_and, Bool.and_false, Bool.not_eq_true', decide_eq_true_eq, decide_eq_false_iff_not, not_true_eq_false, not_false_eq_true, cl_add, sa, sb]
    refine total_loop A hM l (a + b) (n + 1) _ ((ha.add hb).mono (by rw [Nat.mul_add]; omega)) (by omega) (fun x hx => h x (List.mem_cons_of_mem _ hx)) fun s2 => ?_
    have := q s2
    rw [sumR_cons, ← Rat.add_assoc] at this
    exact this
theorem r_total_of (ds : List D) (Q : D → Prop) (h : φ_total_of ds Q) : F_total_of (AEnds.fn Q) (startE 3 ds) := by
  obtain ⟨l, rfl, hl, ⟨M, N, hM, h⟩, q⟩ := h
  simp only [F_total_of, wSeq, wSet, wC, wFor, wItems, wVar, startE, List.getElem?_cons_zero, List.getElem?_cons_succ, List.set_cons_zero, List.set_cons_succ, List.map_cons, List.map_nil, List.cons_append, List.nil_append, List.length_cons, List.length_nil, List.replicate, Option.some.injEq, Slot.val.injEq, Slot.own.injEq, D.lst.injEq, exists_eq_left', exists_eq_left, exists_eq', true_and, and_true, Nat.reduceAdd, Nat.reduceSub, Nat.reduceLeDiff, Bool.false_eq_true, if_true, if_false, ↓reduceIte, Int.reduceMul, Int.reduceAdd, Int.reduceSub, Int.reduceNeg, Int.reduceLT, Int.reduceLE, Int.reduceEq, Nat.reduceMul, Nat.reduceLT, String.reduceEq, String.reduceNe, Int.reduceToNat, reduceCtorEq, Bool.not_true, Bool.not_false, Bool.true_or, Bool.or_true, Bool.false_or, Bool.or_false, Bool.true_and, Bool.and_true, Bool.false_and, Bool.and_false, Bool.not_eq_true', decide_eq_true_eq, decide_eq_false_iff_not, not_true_eq_false, not_false_eq_true, c_ZERO_eq]
  refine total_loop _ hM l 0 0 _ Rq.zero (by omega) h fun s2 => ?_
  simp only [wSeq, wNext, wSet, wSetO, wAsg, wFrz, wRet, wRetN, wDrop, wIfS, wNever, wVar, wOwn, wC, wBin, wUn, wNil, wCons, wTup, wLst, wCall, dBool, wAndV, wOrV, wNotV, wIf, wChain, wTest, wAnd, wOr, wNot, wBind, bindT, setAll, wPar, wAug, wMut, wMutSet, wPut, mAppend, mExtend, wItems, wFor, wBreak, wCont, wWhile, wLc, wipeE, wSlice, wNoP, wP, startE, AEnds.law, AEnds.fn, wSetF, wFld, startI, AEnds.ini, wDict, dGet, kLook, keyD, wRng1, wRng2, wRngDown, wZip, wEnum, wRev, wPar3O, wListZip, wSliceT, wLenSet, wLm, mInsert, wSortedSet, wListRev, wChain3, List.getElem?_cons_zero, List.getElem?_cons_succ, List.set_cons_zero, List.set_cons_succ, List.map_cons, List.map_nil, List.cons_append, List.nil_append, List.length_cons, List.length_nil, List.replicate, Option.some.injEq, Slot.val.injEq, Slot.own.injEq, D.lst.injEq, exists_eq_left', exists_eq_left, exists_eq', true_and, and_true, Nat.reduceAdd, Nat.reduceSub, Nat.reduceLeDiff, Bool.false_eq_true, if_true, if_false, ↓reduceIte, Int.reduceMul, Int.reduceAdd, Int.reduceSub, Int.reduceNeg, Int.reduceLT, Int.reduceLE, Int.reduceEq, Nat.reduceMul, Nat.reduceLT, String.reduceEq, String.reduceNe, Int.reduceToNat, reduceCtorEq, Bool.not_true, Bool.not_false, Bool.true_or, Bool.or_true, Bool.false_or, Bool.or_false, Bool.true_and, Bool.and_true, Bool.false_and, Bool.and_false, Bool.not_eq_true', decide_eq_true_eq, decide_eq_false_iff_not, not_true_eq_false, not_false_eq_true]
  rw [show (0 : Rat) + sumR l = sumR l by grind]
  exact q
def φ_need_some : Fn := fun ds Q => ∃ l : List Rat, ds = [.lst (l.map fr)] ∧ l ≠ [] ∧ Q .non
theorem len_need_some (ds : List D) (Q : D → Prop) (h : φ_need_some ds Q) : ds.length = 1 := by obtain ⟨_, rfl, _⟩ := h; rfl
theorem cl_need_some (l : List Rat) (Q : D → Prop) : φ_need_some [.lst (l.map fr)] Q = (l ≠ [] ∧ Q .non) := propext ⟨fun ⟨t, e, h⟩ => by simp only [List.cons.injEq, D.lst.injEq, and_true] at e; rw [frs_inj e]; exact h, fun h => ⟨l, rfl, h⟩⟩
/-- need_some(row): slots 0=row -/
def F_need_some : FS :=
  (wIfS (wTest (wBin dEq (wCall bLen (wCons (wVar 0) wNil)) (wC (.int 0))))
      wNever
      wNext)

theorem r_need_some (ds : List D) (Q : D → Prop) (h : φ_need_some ds Q) : F_need_some (AEnds.fn Q) (startE 1 ds) := by
  obtain ⟨l, rfl, h0, q⟩ := h
  have ne : ¬ ((l.length : Nat) : Int) = 0 := by
    have := List.length_pos_iff.mpr h0
    omega
  simp only [F_need_some, wSeq, wNext, wSet, wSetO, wAsg, wFrz, wRet, wRetN, wDrop, wIfS, wNever, wVar, wOwn, wC, wBin, wUn, wNil, wCons, wTup, wLst, wCall, dBool, wAndV, wOrV, wNotV, wIf, wChain, wTest, wAnd, wOr, wNot, wBind, bindT, setAll, wPar, wAug, wMut, wMutSet, wPut, mAppend, mExtend, wItems, wFor, wBreak, wCont, wWhile, wLc, wipeE, wSlice, wNoP, wP, startE, AEnds.law, AEnds.fn, wSetF, wFld, startI, AEnds.ini, wDict, dGet, kLook, keyD, wRng1, wRng2, wRngDown, wZip, wEnum, wRev, wPar3O, wListZip, wSliceT, wLenSet, wLm, mInsert, wSortedSet, wListRev, wChain3, List.getElem?_cons_zero, List.getElem?_cons_succ, List.set_cons_zero, List.set_cons_succ, List.map_cons, List.map_nil, List.cons_append, List.nil_append, List.length_cons, List.length_nil, List.replicate, Option.some.injEq, Slot.val.injEq, Slot.own.injEq, D.lst.injEq, exists_eq_left', exists_eq_left, exists_eq', true_and, and_true, Nat.reduceAdd, Nat.reduceSub, Nat.reduceLeDiff, Bool.false_eq_true, if_true, if_false, ↓reduceIte, Int.reduceMul, Int.reduceAdd, Int.reduceSub, Int.reduceNeg, Int.reduceLT, Int.reduceLE, Int.reduceEq, Nat.reduceMul, Nat.reduceLT, String.reduceEq, String.reduceNe, Int.reduceToNat, reduceCtorEq, Bool.not_true, Bool.not_false, Bool.true_or, Bool.or_true, Bool.false_or, Bool.or_false, Bool.true_and, Bool.and_true, Bool.false_and, Bool.and_false, Bool.not_eq_true', decide_eq_true_eq, decide_eq_false_iff_not, not_true_eq_false, not_false_eq_true, dSubB, dIn, dNotIn, flatD, List.all_cons, List.all_nil, List.any_cons, List.any_nil, dInt2, dSub, dFdiv, dMod, dLt, dLe, dGt, dGe, dPow, dNeg, dAdd, dMul, dEq, dNe, dIsN, dNotN, isNon_non, isNon_bl, isNon_int, isNon_str, isNon_tup, isNon_lst, isNon_fr, deq_non_non, deq_non_bl, deq_non_int, deq_non_str, deq_non_tup, deq_non_lst, deq_bl_non, deq_bl_bl, deq_bl_str, deq_bl_tup, deq_bl_lst, deq_int_non, deq_int_int, deq_int_str, deq_int_tup, deq_int_lst, deq_str_non, deq_str_bl, deq_str_int, deq_str_str, deq_str_tup, deq_str_lst, deq_tup_non, deq_tup_bl, deq_tup_int, deq_tup_str, deq_tup_tup, deq_tup_lst, deq_lst_non, deq_lst_bl, deq_lst_int, deq_lst_str, deq_lst_tup, deq_lst_lst, deqs_nil, deqs_cons, deqs_nil_cons, deqs_cons_nil, deq_fr_non, deq_non_fr, plain_non, plain_bl, plain_int, plain_lit, plains_nil, plains_cons, plain_lst20, plain_tup20, plain_lst19, plain_tup19, plain_tup18, plain_fr19, plain_fr18, deqs_frs, plains_frs19, decide_true, decide_false, ix0, ix1, deq_fr, plain_fr20, fr_def, fr_neg, fr_neg', okStr_lit, beq_lit, bAbs, bMax2, bMin2, bInt, bGcd, bList, bTuple, ofString_inj, bLen, List.length_map, ne, decide_false]
  exact q
def φ_mean : Fn := fun ds Q => ∃ l : List Rat, ds = [.lst (l.map fr)] ∧ Rw l ∧ Q (fr (meanR l))
theorem len_mean (ds : List D) (Q : D → Prop) (h : φ_mean ds Q) : ds.length = 1 := by obtain ⟨_, rfl, _⟩ := h; rfl
theorem cl_mean (l : List Rat) (Q : D → Prop) : φ_mean [.lst (l.map fr)] Q = (Rw l ∧ Q (fr (meanR l))) := propext ⟨fun ⟨t, e, h⟩ => by simp only [List.cons.injEq, D.lst.injEq, and_true] at e; rw [frs_inj e]; exact h, fun h => ⟨l, rfl, h⟩⟩
/-- mean(row): slots 0=row -/
def F_mean : FS :=
  (wSeq (wDrop (wCall φ_need_some (wCons (wVar 0) wNil)))
    (wRet (wCall φ_over (wCons (wCall φ_total_of (wCons (wVar 0) wNil)) (wCons (wCall φ_whole (wCons (wCall bLen (wCons (wVar 0) wNil)) wNil)) wNil)))))

theorem r_mean (ds : List D) (Q : D → Prop) (h : φ_mean ds Q) : F_mean (AEnds.fn Q) (startE 1 ds) := by
  obtain ⟨l, rfl, R, q⟩ := h
  have few := R.few
  have ss : Sz 1900 (sumR l) := ((rq_sum R.q).sz (n := 20) (by omega) (by omega) (by omega)).mono (by omega)
  have sl : Sz 1900 (((l.length : Nat) : Int) : Rat) := (Sz.int (n := 20) (by omega) (by omega)).mono (by omega)
  simp only [F_mean, wSeq, wDrop, wRet, wCall, wCons, wNil, wVar, startE, AEnds.fn, bLen, List.getElem?_cons_zero, List.getElem?_cons_succ, List.set_cons_zero, List.set_cons_succ, List.map_cons, List.map_nil, List.cons_append, List.nil_append, List.length_cons, List.length_nil, List.replicate, Option.some.injEq, Slot.val.injEq, Slot.own.injEq, D.lst.injEq, exists_eq_left', exists_eq_left, exists_eq', true_and, and_true, Nat.reduceAdd, Nat.reduceSub, Nat.reduceLeDiff, Bool.false_eq_true, if_true, if_false, ↓reduceIte, Int.reduceMul, Int.reduceAdd, Int.reduceSub, Int.reduceNeg, Int.reduceLT, Int.reduceLE, Int.reduceEq, Nat.reduceMul, Nat.reduceLT, String.reduceEq, String.reduceNe, Int.reduceToNat, reduceCtorEq, Bool.not_true, Bool.not_false, Bool.true_or, Bool.or_true, Bool.false_or, Bool.or_false, Bool.true_and, Bool.and_true, Bool.false_and, Bool.and_false, Bool.not_eq_true', decide_eq_true_eq, decide_eq_false_iff_not, not_true_eq_false, not_false_eq_true, List.length_map, cl_need_some, cl_total_of, cl_whole, cl_over, R.ne, few, R.smm, ss, sl, lenR_ne R.ne, ne_eq]
  exact q
def φ_products : Fn := fun ds Q => ∃ l m : List Rat, ds = [.lst (l.map fr), .lst (m.map fr)] ∧ Rw l ∧ Rw m ∧ l.length = m.length ∧ Q (fr (prR l m))
theorem len_products (ds : List D) (Q : D → Prop) (h : φ_products ds Q) : ds.length = 2 := by obtain ⟨_, _, rfl, _⟩ := h; rfl
theorem cl_products (l m : List Rat) (Q : D → Prop) : φ_products [.lst (l.map fr), .lst (m.map fr)] Q = (Rw l ∧ Rw m ∧ l.length = m.length ∧ Q (fr (prR l m))) := propext ⟨fun ⟨t, u, e, h⟩ => by simp only [List.cons.injEq, D.lst.injEq, and_true] at e; rw [frs_inj e.1, frs_inj e.2]; exact h, fun h => ⟨l, m, rfl, h⟩⟩
theorem zip_fr (l m : List Rat) : zipD (l.map fr) (m.map fr) = (l.zip m).map fun p => D.tup [fr p.1, fr p.2] := by
  unfold zipD
  rw [List.zipWith_map, List.zip, List.map_zipWith]
/-- products(row, other): slots 0=row 1=other 2=middle 3=second 4=found 5=a 6=b -/
def F_products : FS :=
  (wSeq (wIfS (wTest (wBin dNe (wCall bLen (wCons (wVar 0) wNil)) (wCall bLen (wCons (wVar 1) wNil))))
      wNever
      wNext)
    (wSeq (wPar [2, 3] (wCons (wCall φ_mean (wCons (wVar 0) wNil)) (wCons (wCall φ_mean (wCons (wVar 1) wNil)) wNil)))
    (wSeq (wSet 4 (wC c_ZERO))
    (wSeq (wFor (.tup [5, 6]) (wZip (wCons (wVar 0) (wCons (wVar 1) wNil)))
      (wSet 4 (wCall φ_add (wCons (wVar 4) (wCons (wCall φ_times (wCons (wCall φ_minus (wCons (wVar 5) (wCons (wVar 2) wNil))) (wCons (wCall φ_minus (wCons (wVar 6) (wCons (wVar 3) wNil))) wNil))) wNil)))))
    (wRet (wVar 4))))))

theorem products_loop (A : AEnds) {s0 s1 : Slot} {x y : Rat} (hx : Sz 14 x) (hy : Sz 14 y) : ∀ (L : List (Rat × Rat)) (a : Rat) (n : Nat) (s5 s6 : Slot), Sz n a → n + 60 * L.length ≤ 1000 → (∀ p ∈ L, Sz 12 p.1 ∧ Sz 12 p.2) → (∀ s5 s6 : Slot, A.nx [s0, s1, .val (fr x), .val (fr y), .val (fr (a + sumR (L.map fun p => (p.1 - x) * (p.2 - y)))), s5, s6]) →
    wForL (.tup [5, 6]) (wSet 4 (wCall φ_add (wCons (wVar 4) (wCons (wCall φ_times (wCons (wCall φ_minus (wCons (wVar 5) (wCons (wVar 2) wNil))) (wCons (wCall φ_minus (wCons (wVar 6) (wCons (wVar 3) wNil))) wNil))) wNil)))) (L.map fun p => D.tup [fr p.1, fr p.2]) A [s0, s1, .val (fr x), .val (fr y), .val (fr a), s5, s6]
  | [], a, n, s5, s6, _, _, _, q => by
    have := q s5 s6
    rw [List.map_nil, show a + sumR [] = a by show a + 0 = a; grind] at this
    exact this
  | p :: L, a, n, s5, s6, ha, hl, h, q => by
    obtain ⟨h1, h2⟩ := h p List.mem_cons_self
    simp only [List.length_cons] at hl
    have z1 := h1.sub hx
    have z2 := h2.sub hy
    have z3 := z1.mul z2
    have z4 := ha.add z3
    rw [List.map_cons]
    unfold wForL
    simp only [wBind, bindT, setAll, wSet, wCall, wCons, wNil, wVar, List.getElem?_cons_zero, List.getElem?_cons_succ, List.set_cons_zero, List.set_cons_succ, List.map_cons, List.map_nil, List.cons_append, List.nil_append, List.length_cons, List.length_nil, List.replicate, Option.some.injEq, Slot.val.injEq, Slot.own.injEq, D.lst.injEq, exists_eq_left', exists_eq_left, exists_eq', true_and, and_true, Nat.reduceAdd, Nat.reduceSub, Nat.reduceLeDiff, Bool.false_eq_true, if_true, if_false, ↓reduceIte, Int.reduceMul, Int.reduceAdd, Int.reduceSub, Int.reduceNeg, Int.reduceLT, Int.reduceLE, Int.reduceEq, Nat.reduceMul, Nat.reduceLT, String.reduceEq, String.reduceNe, Int.reduceToNat, reduceCtorEq, Bool.not_true, Bool.not_false, Bool.true_or, Bool.or_true, Bool.false_or, Bool.or_false, Bool.true_and, Bool.and_true, Bool.false_and, Bool.and_false, Bool.not_eq_true', decide_eq_true_eq, decide_eq_false_iff_not, not_true_eq_false, not_false_eq_true, cl_minus, cl_times, cl_add, hx.mono (show 14 ≤ 1900 by omega), hy.mono (show 14 ≤ 1900 by omega), h1.mono (show 12 ≤ 1900 by omega), h2.mono (show 12 ≤ 1900 by omega), z1.mono (show 12 + 14 + 1 ≤ 1900 by omega), z2.mono (show 12 + 14 + 1 ≤ 1900 by omega), z3.mono (show 12 + 14 + 1 + (12 + 14 + 1) ≤ 1900 by omega), ha.mono (show n ≤ 1900 by omega)]
    refine products_loop A hx hy L _ _ _ _ z4 (by omega) (fun r hr => h r (List.mem_cons_of_mem _ hr)) fun s5 s6 => ?_
    have := q s5 s6
    rw [List.map_cons, sumR_cons, ← Rat.add_assoc] at this
    exact this
theorem r_products (ds : List D) (Q : D → Prop) (h : φ_products ds Q) : F_products (AEnds.fn Q) (startE 7 ds) := by
  obtain ⟨l, m, rfl, R, S, e, q⟩ := h
  have few := R.few
  have e' : ((l.length : Nat) : Int) = ((m.length : Nat) : Int) := by rw [e]
  simp only [F_products, wSeq, wIfS, wTest, wBin, wCall, wCons, wNil, wVar, wC, wNever, wNext, wPar, wSet, wFor, wZip, setAll, startE, List.getElem?_cons_zero, List.getElem?_cons_succ, List.set_cons_zero, List.set_cons_succ, List.map_cons, List.map_nil, List.cons_append, List.nil_append, List.length_cons, List.length_nil, List.replicate, Option.some.injEq, Slot.val.injEq, Slot.own.injEq, D.lst.injEq, exists_eq_left', exists_eq_left, exists_eq', true_and, and_true, Nat.reduceAdd, Nat.reduceSub, Nat.reduceLeDiff, Bool.false_eq_true, if_true, if_false, ↓reduceIte, Int.reduceMul, Int.reduceAdd, Int.reduceSub, Int.reduceNeg, Int.reduceLT, Int.reduceLE, Int.reduceEq, Nat.reduceMul, Nat.reduceLT, String.reduceEq, String.reduceNe, Int.reduceToNat, reduceCtorEq, Bool.not_true, Bool.not_false, Bool.true_or, Bool.or_true, Bool.false_or, Bool.or_false, Bool.true_and, Bool.and_true, Bool.false_and, Bool.and_false, Bool.not_eq_true', decide_eq_true_eq, decide_eq_false_iff_not, not_true_eq_false, not_false_eq_true, dSubB, dIn, dNotIn, flatD, List.all_cons, List.all_nil, List.any_cons, List.any_nil, dInt2, dSub, dFdiv, dMod, dLt, dLe, dGt, dGe, dPow, dNeg, dAdd, dMul, dEq, dNe, dIsN, dNotN, isNon_non, isNon_bl, isNon_int, isNon_str, isNon_tup, isNon_lst, isNon_fr, deq_non_non, deq_non_bl, deq_non_int, deq_non_str, deq_non_tup, deq_non_lst, deq_bl_non, deq_bl_bl, deq_bl_str, deq_bl_tup, deq_bl_lst, deq_int_non, deq_int_int, deq_int_str, deq_int_tup, deq_int_lst, deq_str_non, deq_str_bl, deq_str_int, deq_str_str, deq_str_tup, deq_str_lst, deq_tup_non, deq_tup_bl, deq_tup_int, deq_tup_str, deq_tup_tup, deq_tup_lst, deq_lst_non, deq_lst_bl, deq_lst_int, deq_lst_str, deq_lst_tup, deq_lst_lst, deqs_nil, deqs_cons, deqs_nil_cons, deqs_cons_nil, deq_fr_non, deq_non_fr, plain_non, plain_bl, plain_int, plain_lit, plains_nil, plains_cons, plain_lst20, plain_tup20, plain_lst19, plain_tup19, plain_tup18, plain_fr19, plain_fr18, deqs_frs, plains_frs19, decide_true, decide_false, ix0, ix1, deq_fr, plain_fr20, fr_def, fr_neg, fr_neg', okStr_lit, beq_lit, bAbs, bMax2, bMin2, bInt, bGcd, bList, bTuple, ofString_inj, dBool, bLen, List.length_map, e, cl_mean, R, S, c_ZERO_eq, zip_fr, decide_true, Bool.not_true]
  refine products_loop _ R.msz S.msz (l.zip m) 0 1 _ _ (Sz.zero (by omega)) (by simp; omega) (fun p hp => ⟨R.esz (List.of_mem_zip hp).1, S.esz (List.of_mem_zip hp).2⟩) fun s5 s6 => ?_
  simp only [wSeq, wNext, wSet, wSetO, wAsg, wFrz, wRet, wRetN, wDrop, wIfS, wNever, wVar, wOwn, wC, wBin, wUn, wNil, wCons, wTup, wLst, wCall, dBool, wAndV, wOrV, wNotV, wIf, wChain, wTest, wAnd, wOr, wNot, wBind, bindT, setAll, wPar, wAug, wMut, wMutSet, wPut, mAppend, mExtend, wItems, wFor, wBreak, wCont, wWhile, wLc, wipeE, wSlice, wNoP, wP, startE, AEnds.law, AEnds.fn, wSetF, wFld, startI, AEnds.ini, wDict, dGet, kLook, keyD, wRng1, wRng2, wRngDown, wZip, wEnum, wRev, wPar3O, wListZip, wSliceT, wLenSet, wLm, mInsert, wSortedSet, wListRev, wChain3, List.getElem?_cons_zero, List.getElem?_cons_succ, List.set_cons_zero, List.set_cons_succ, List.map_cons, List.map_nil, List.cons_append, List.nil_append, List.length_cons, List.length_nil, List.replicate, Option.some.injEq, Slot.val.injEq, Slot.own.injEq, D.lst.injEq, exists_eq_left', exists_eq_left, exists_eq', true_and, and_true, Nat.reduceAdd, Nat.reduceSub, Nat.reduceLeDiff, Bool.false_eq_true, if_true, if_false, ↓reduceIte, Int.reduceMul, Int.reduceAdd, Int.reduceSub, Int.reduceNeg, Int.reduceLT, Int.reduceLE, Int.reduceEq, Nat.reduceMul, Nat.reduceLT, String.reduceEq, String.reduceNe, Int.reduceToNat, reduceCtorEq, Bool.not_true, Bool.not_false, Bool.true_or, Bool.or_true, Bool.false_or, Bool.or_false, Bool.true_and, Bool.and_true, Bool.false_and, Bool.and_false, Bool.not_eq_true', decide_eq_true_eq, decide_eq_false_iff_not, not_true_eq_false, not_false_eq_true]
  rw [show (0 : Rat) + sumR ((l.zip m).map fun p => (p.1 - meanR l) * (p.2 - meanR m)) = prR l m by unfold prR; grind]
  exact q
def φ_variance : Fn := fun ds Q => ∃ l : List Rat, ds = [.lst (l.map fr)] ∧ Rw l ∧ Q (fr (prR l l / ((l.length : Nat) : Int)))
theorem len_variance (ds : List D) (Q : D → Prop) (h : φ_variance ds Q) : ds.length = 1 := by obtain ⟨_, rfl, _⟩ := h; rfl
theorem cl_variance (l : List Rat) (Q : D → Prop) : φ_variance [.lst (l.map fr)] Q = (Rw l ∧ Q (fr (prR l l / ((l.length : Nat) : Int)))) := propext ⟨fun ⟨t, e, h⟩ => by simp only [List.cons.injEq, D.lst.injEq, and_true] at e; rw [frs_inj e]; exact h, fun h => ⟨l, rfl, h⟩⟩
/-! ### the sum of products as a fraction -/
theorem pr_sum (l m : List Rat) (x y : Rat) : ∀ L : List (Rat × Rat), sumR (L.map fun p => (p.1 - x) * (p.2 - y)) = sumR (L.map fun p => p.1 * p.2) - x * sumR (L.map (·.2)) - y * sumR (L.map (·.1)) + x * y * ((L.length : Nat) : Int)
  | [] => by show (0 : Rat) = 0 - x * 0 - y * 0 + x * y * ((0 : Nat) : Int); simp; grind
  | p :: L => by
    simp only [List.map_cons, sumR_cons, pr_sum l m x y L, List.length_cons]
    have e : (((L.length + 1 : Nat) : Int) : Rat) = ((L.length : Nat) : Int) + 1 := by rw [Int.natCast_add, Rat.intCast_add]; rfl
    rw [e]
    generalize sumR (L.map fun p => p.1 * p.2) = a
    generalize sumR (L.map (·.2)) = b
    generalize sumR (L.map (·.1)) = c
    generalize (((L.length : Nat) : Int) : Rat) = n
    grind
theorem prR_eq {l m : List Rat} (h : l ≠ []) (e : l.length = m.length) : prR l m = sumR ((l.zip m).map fun p => p.1 * p.2) - sumR l * sumR m / ((l.length : Nat) : Int) := by
  have n := lenR_ne h
  have e1 : (l.zip m).map (·.1) = l := by rw [List.map_fst_zip]; omega
  have e2 : (l.zip m).map (·.2) = m := by rw [List.map_snd_zip]; omega
  have e3 : (l.zip m).length = l.length := by simp; omega
  unfold prR
  rw [pr_sum l m, e1, e2, e3]
  unfold meanR
  rw [← e]
  generalize sumR ((l.zip m).map fun p => p.1 * p.2) = a
  generalize sumR l = b
  generalize sumR m = c
  generalize (((l.length : Nat) : Int) : Rat) = y at *
  grind
theorem rq_mul {M M' N N' : Nat} {p q : Rat} (h : Rq M N p) (g : Rq M' N' q) : Rq (M * M') (N * N') (p * q) := by
  obtain ⟨j, rfl, a⟩ := h
  obtain ⟨k, rfl, b⟩ := g
  refine ⟨j * k, ?_, by rw [Int.natAbs_mul]; exact Nat.mul_le_mul a b⟩
  rw [Int.natCast_mul, Rat.intCast_mul, Rat.intCast_mul, Rat.div_def, Rat.div_def, Rat.div_def, Rat.inv_mul_rev]
  grind
theorem Rw.pr {l m : List Rat} (R : Rw l) (S : Rw m) (e : l.length = m.length) : Rq (576 * l.length) 288000000 (prR l m) := by
  have few := R.few
  have s1 : Rq 576 (4000000 * (l.zip m).length) (sumR ((l.zip m).map fun p => p.1 * p.2)) := by
    have := rq_sum (M := 576) (N := 4000000) (l := (l.zip m).map fun p => p.1 * p.2) fun x hx => by
      obtain ⟨p, hp, rfl⟩ := List.mem_map.mp hx
      exact rq_mul (R.q _ (List.of_mem_zip hp).1) (S.q _ (List.of_mem_zip hp).2)
    rw [List.length_map] at this
    exact this
  have s2 := rq_mul (rq_sum R.q) (rq_sum S.q)
  rw [prR_eq R.ne e]
  have n := lenR_ne R.ne
  obtain ⟨j, ej, a⟩ := s1
  obtain ⟨k, ek, b⟩ := s2
  rw [ej, ek]
  have lz : (l.zip m).length = l.length := by simp; omega
  rw [lz] at a
  refine ⟨(l.length : Nat) * j - k, ?_, ?_⟩
  · have e2 : (((576 * l.length : Nat) : Int) : Rat) = 576 * (((l.length : Nat) : Int) : Rat) := by rw [Int.natCast_mul, Rat.intCast_mul]; rfl
    have e3 : (((576 : Nat) : Int) : Rat) = 576 := rfl
    rw [e2, e3, Rat.intCast_sub, Rat.intCast_mul]
    generalize (((l.length : Nat) : Int) : Rat) = y at *
    grind
  · have h1 : ((l.length : Nat) * j : Int).natAbs ≤ 6 * 24000000 := by rw [Int.natAbs_mul]; exact Nat.mul_le_mul (by simp; omega) (by omega)
    have h2 : k.natAbs ≤ 12000 * 12000 := Nat.le_trans b (Nat.mul_le_mul (by omega) (by rw [← e]; omega))
    omega
theorem Rw.prz {l m : List Rat} (R : Rw l) (S : Rw m) (e : l.length = m.length) : Sz 29 (prR l m) := (R.pr S e).sz (by omega) (by have := R.few; omega) (by omega)
/-- variance(row): slots 0=row -/
def F_variance : FS :=
  (wRet (wCall φ_over (wCons (wCall φ_products (wCons (wVar 0) (wCons (wVar 0) wNil))) (wCons (wCall φ_whole (wCons (wCall bLen (wCons (wVar 0) wNil)) wNil)) wNil))))

theorem r_variance (ds : List D) (Q : D → Prop) (h : φ_variance ds Q) : F_variance (AEnds.fn Q) (startE 1 ds) := by
  obtain ⟨l, rfl, R, q⟩ := h
  have few := R.few
  have z := (R.prz R rfl).mono (show 29 ≤ 1900 by omega)
  have sl : Sz 1900 (((l.length : Nat) : Int) : Rat) := (Sz.int (n := 20) (by omega) (by omega)).mono (by omega)
  simp only [F_variance, wRet, wCall, wCons, wNil, wVar, startE, AEnds.fn, List.getElem?_cons_zero, List.getElem?_cons_succ, List.set_cons_zero, List.set_cons_succ, List.map_cons, List.map_nil, List.cons_append, List.nil_append, List.length_cons, List.length_nil, List.replicate, Option.some.injEq, Slot.val.injEq, Slot.own.injEq, D.lst.injEq, exists_eq_left', exists_eq_left, exists_eq', true_and, and_true, Nat.reduceAdd, Nat.reduceSub, Nat.reduceLeDiff, Bool.false_eq_true, if_true, if_false, ↓reduceIte, Int.reduceMul, Int.reduceAdd, Int.reduceSub, Int.reduceNeg, Int.reduceLT, Int.reduceLE, Int.reduceEq, Nat.reduceMul, Nat.reduceLT, String.reduceEq, String.reduceNe, Int.reduceToNat, reduceCtorEq, Bool.not_true, Bool.not_false, Bool.true_or, Bool.or_true, Bool.false_or, Bool.or_false, Bool.true_and, Bool.and_true, Bool.false_and, Bool.and_false, Bool.not_eq_true', decide_eq_true_eq, decide_eq_false_iff_not, not_true_eq_false, not_false_eq_true, bLen_map, nD, cl_products, cl_whole, cl_over, R, z, sl, lenR_ne R.ne, ne_eq]
  exact q
def sgR (a : Rat) : Int := (if 0 < a.num then 1 else 0) - (if a.num < 0 then 1 else 0)
def sqR (l m : List Rat) : Rat := prR l m * prR l m / (prR l l * prR m m)
structure Rws (l m : List Rat) : Prop where
  L : Rw l
  M : Rw m
  e : l.length = m.length
def φ_correlation : Fn := fun ds Q => ∃ l m : List Rat, ds = [.lst (l.map fr), .lst (m.map fr)] ∧ Rws l m ∧ prR l l * prR m m ≠ 0 ∧ Q (.tup [.int (sgR (prR l m)), fr (sqR l m)])
theorem len_correlation (ds : List D) (Q : D → Prop) (h : φ_correlation ds Q) : ds.length = 2 := by obtain ⟨_, _, rfl, _⟩ := h; rfl
def ψ_correlation : List D → Prop := fun ds => ∃ l m : List Rat, ds = [.lst (l.map fr), .lst (m.map fr)] ∧ Rws l m ∧ prR l l * prR m m = 0
theorem lenx_correlation (ds : List D) (h : ψ_correlation ds) : ds.length = 2 := by obtain ⟨_, _, rfl, _⟩ := h; rfl
/-- correlation(row, other): slots 0=row 1=other 2=top 3=square -/
def F_correlation : FS :=
  (wSeq (wSet 2 (wCall φ_products (wCons (wVar 0) (wCons (wVar 1) wNil))))
    (wSeq (wSet 3 (wCall φ_over (wCons (wCall φ_times (wCons (wVar 2) (wCons (wVar 2) wNil))) (wCons (wCall φ_times (wCons (wCall φ_products (wCons (wVar 0) (wCons (wVar 0) wNil))) (wCons (wCall φ_products (wCons (wVar 1) (wCons (wVar 1) wNil))) wNil))) wNil))))
    (wRet (wTup (wCons (wBin dSubB (wBin dGt (wBin dIx (wVar 2) (wC (.int 0))) (wC (.int 0))) (wBin dLt (wBin dIx (wVar 2) (wC (.int 0))) (wC (.int 0)))) (wCons (wVar 3) wNil))))))
def FX_correlation : FX :=
  (fun env => (wSet 2 (wCall φ_products (wCons (wVar 0) (wCons (wVar 1) wNil)))) { nx := (fun env => (wCons (wCall φ_times (wCons (wVar 2) (wCons (wVar 2) wNil))) (wCons (wCall φ_times (wCons (wCall φ_products (wCons (wVar 0) (wCons (wVar 0) wNil))) (wCons (wCall φ_products (wCons (wVar 1) (wCons (wVar 1) wNil))) wNil))) wNil)) env ψ_over), rt := fun _ => False } env)

theorem r_correlation (ds : List D) (Q : D → Prop) (h : φ_correlation ds Q) : F_correlation (AEnds.fn Q) (startE 4 ds) := by
  obtain ⟨l, m, rfl, R, z, q⟩ := h
  have p1 := R.L.prz R.M R.e
  have p2 := R.L.prz R.L rfl
  have p3 := R.M.prz R.M rfl
  have t1 := p1.mul p1
  have t2 := p2.mul p3
  simp only [F_correlation, wSeq, wSet, wRet, wTup, wCall, wCons, wNil, wVar, wC, wBin, startE, AEnds.fn, List.getElem?_cons_zero, List.getElem?_cons_succ, List.set_cons_zero, List.set_cons_succ, List.map_cons, List.map_nil, List.cons_append, List.nil_append, List.length_cons, List.length_nil, List.replicate, Option.some.injEq, Slot.val.injEq, Slot.own.injEq, D.lst.injEq, exists_eq_left', exists_eq_left, exists_eq', true_and, and_true, Nat.reduceAdd, Nat.reduceSub, Nat.reduceLeDiff, Bool.false_eq_true, if_true, if_false, ↓reduceIte, Int.reduceMul, Int.reduceAdd, Int.reduceSub, Int.reduceNeg, Int.reduceLT, Int.reduceLE, Int.reduceEq, Nat.reduceMul, Nat.reduceLT, String.reduceEq, String.reduceNe, Int.reduceToNat, reduceCtorEq, Bool.not_true, Bool.not_false, Bool.true_or, Bool.or_true, Bool.false_or, Bool.or_false, Bool.true_and, Bool.and_true, Bool.false_and, Bool.and_false, Bool.not_eq_true', decide_eq_true_eq, decide_eq_false_iff_not, not_true_eq_false, not_false_eq_true, cl_products, R.L, R.M, R.e, cl_times, cl_over, p1.mono (show 29 ≤ 1900 by omega), p2.mono (show 29 ≤ 1900 by omega), p3.mono (show 29 ≤ 1900 by omega), t1.mono (show 29 + 29 ≤ 1900 by omega), t2.mono (show 29 + 29 ≤ 1900 by omega), z, ne_eq]
  simp only [List.getElem?_cons_zero, List.getElem?_cons_succ, List.set_cons_zero, List.set_cons_succ, List.map_cons, List.map_nil, List.cons_append, List.nil_append, List.length_cons, List.length_nil, List.replicate, Option.some.injEq, Slot.val.injEq, Slot.own.injEq, D.lst.injEq, exists_eq_left', exists_eq_left, exists_eq', true_and, and_true, Nat.reduceAdd, Nat.reduceSub, Nat.reduceLeDiff, Bool.false_eq_true, if_true, if_false, ↓reduceIte, Int.reduceMul, Int.reduceAdd, Int.reduceSub, Int.reduceNeg, Int.reduceLT, Int.reduceLE, Int.reduceEq, Nat.reduceMul, Nat.reduceLT, String.reduceEq, String.reduceNe, Int.reduceToNat, reduceCtorEq, Bool.not_true, Bool.not_false, Bool.true_or, Bool.or_true, Bool.false_or, Bool.or_false, Bool.true_and, Bool.and_true, Bool.false_and, Bool.and_false, Bool.not_eq_true', decide_eq_true_eq, decide_eq_false_iff_not, not_true_eq_false, not_false_eq_true, dSubB, dIn, dNotIn, flatD, List.all_cons, List.all_nil, List.any_cons, List.any_nil, dInt2, dSub, dFdiv, dMod, dLt, dLe, dGt, dGe, dPow, dNeg, dAdd, dMul, dEq, dNe, dIsN, dNotN, isNon_non, isNon_bl, isNon_int, isNon_str, isNon_tup, isNon_lst, isNon_fr, deq_non_non, deq_non_bl, deq_non_int, deq_non_str, deq_non_tup, deq_non_lst, deq_bl_non, deq_bl_bl, deq_bl_str, deq_bl_tup, deq_bl_lst, deq_int_non, deq_int_int, deq_int_str, deq_int_tup, deq_int_lst, deq_str_non, deq_str_bl, deq_str_int, deq_str_str, deq_str_tup, deq_str_lst, deq_tup_non, deq_tup_bl, deq_tup_int, deq_tup_str, deq_tup_tup, deq_tup_lst, deq_lst_non, deq_lst_bl, deq_lst_int, deq_lst_str, deq_lst_tup, deq_lst_lst, deqs_nil, deqs_cons, deqs_nil_cons, deqs_cons_nil, deq_fr_non, deq_non_fr, plain_non, plain_bl, plain_int, plain_lit, plains_nil, plains_cons, plain_lst20, plain_tup20, plain_lst19, plain_tup19, plain_tup18, plain_fr19, plain_fr18, deqs_frs, plains_frs19, decide_true, decide_false, ix0, ix1, deq_fr, plain_fr20, fr_def, fr_neg, fr_neg', okStr_lit, beq_lit, bLen, bAbs, bMax2, bMin2, bInt, bGcd, bList, bTuple, ofString_inj]
  exact q
theorem rx_correlation (ds : List D) (h : ψ_correlation ds) : FX_correlation (startE 4 ds) := by
  obtain ⟨l, m, rfl, R, z⟩ := h
  have p1 := R.L.prz R.M R.e
  have p2 := R.L.prz R.L rfl
  have p3 := R.M.prz R.M rfl
  have t1 := p1.mul p1
  simp only [FX_correlation, wSet, wCall, wCons, wNil, wVar, startE, List.getElem?_cons_zero, List.getElem?_cons_succ, List.set_cons_zero, List.set_cons_succ, List.map_cons, List.map_nil, List.cons_append, List.nil_append, List.length_cons, List.length_nil, List.replicate, Option.some.injEq, Slot.val.injEq, Slot.own.injEq, D.lst.injEq, exists_eq_left', exists_eq_left, exists_eq', true_and, and_true, Nat.reduceAdd, Nat.reduceSub, Nat.reduceLeDiff, Bool.false_eq_true, if_true, if_false, ↓reduceIte, Int.reduceMul, Int.reduceAdd, Int.reduceSub, Int.reduceNeg, Int.reduceLT, Int.reduceLE, Int.reduceEq, Nat.reduceMul, Nat.reduceLT, String.reduceEq, String.reduceNe, Int.reduceToNat, reduceCtorEq, Bool.not_true, Bool.not_false, Bool.true_or, Bool.or_true, Bool.false_or, Bool.or_false, Bool.true_and, Bool.and_true, Bool.false_and, Bool.and_false, Bool.not_eq_true', decide_eq_true_eq, decide_eq_false_iff_not, not_true_eq_false, not_false_eq_true, cl_products, R.L, R.M, R.e, cl_times, p1.mono (show 29 ≤ 1900 by omega), p2.mono (show 29 ≤ 1900 by omega), p3.mono (show 29 ≤ 1900 by omega), z]
  exact ⟨_, rfl, t1.mono (by omega)⟩
def φ_check_table : Fn := fun ds Q => ∃ T, ds = [tabD T] ∧ Tb T ∧ Q .non
theorem len_check_table (ds : List D) (Q : D → Prop) (h : φ_check_table ds Q) : ds.length = 1 := by obtain ⟨_, rfl, _⟩ := h; rfl
theorem cl_check_table (T : List (List Rat)) (Q : D → Prop) : φ_check_table [tabD T] Q = (Tb T ∧ Q .non) := propext ⟨fun ⟨t, e, h⟩ => by simp only [List.cons.injEq, tab_inj, and_true] at e; rw [e]; exact h, fun h => ⟨T, rfl, h⟩⟩
theorem ix_tab {T : List (List Rat)} {i : Nat} {r : List Rat} (h : T[i]? = some r) (Q : D → Prop) : dIx (tabD T) (.int (i : Nat)) Q = Q (rowD r) := ix_map h Q
theorem ix_row {r : List Rat} {i : Nat} (h : i < r.length) (Q : D → Prop) : dIx (rowD r) (.int (i : Nat)) Q = Q (fr (at_ r i)) := ix_map (at_get h) Q
theorem len_tab (T : List (List Rat)) (Q : D → Prop) : bLen [tabD T] Q = Q (nD T.length) := bLen_map _ _ _
theorem len_row (r : List Rat) (Q : D → Prop) : bLen [rowD r] Q = Q (nD r.length) := bLen_map _ _ _
theorem Tb.hd {T : List (List Rat)} (h : Tb T) : ∃ r, T[0]? = some r ∧ r.length = wid T := by
  cases T with
  | nil => exact absurd rfl h.ne
  | cons r T => exact ⟨r, rfl, rfl⟩
theorem ix_tab0 {T : List (List Rat)} {r : List Rat} (h : T[0]? = some r) (Q : D → Prop) : dIx (tabD T) (.int 0) Q = Q (rowD r) := ix_tab (i := 0) h Q
/-- check_table(table): slots 0=table 1=row -/
def F_check_table : FS :=
  (wSeq (wIfS (wOr (wTest (wBin dEq (wCall bLen (wCons (wVar 0) wNil)) (wC (.int 0)))) (wTest (wBin dEq (wCall bLen (wCons (wBin dIx (wVar 0) (wC (.int 0))) wNil)) (wC (.int 0)))))
      wNever
      wNext)
    (wIfS (wNot (wTest (wCall bAll (wCons (wLc (wItems (wVar 0)) (.name 1) wYes (wBin dEq (wCall bLen (wCons (wVar 1) wNil)) (wCall bLen (wCons (wBin dIx (wVar 0) (wC (.int 0))) wNil))) [1]) wNil))))
      wNever
      wNext))

theorem bools_map {α : Type} (l : List α) : boolsD (l.map fun _ => D.bl true) = some (l.map fun _ => true) := by
  induction l with
  | nil => rfl
  | cons a l ih => simp only [List.map_cons, boolsD, ih]; rfl
theorem r_check_table (ds : List D) (Q : D → Prop) (h : φ_check_table ds Q) : F_check_table (AEnds.fn Q) (startE 2 ds) := by
  obtain ⟨T, rfl, h, q⟩ := h
  obtain ⟨r, e0, er⟩ := h.hd
  have few := h.few
  have m1 := h.m1
  have n1 : ¬ T.length = 0 := fun z => h.ne (List.length_eq_zero_iff.mp z)
  have n2 : ¬ r.length = 0 := by omega
  have z1 : ((0 : Nat) : Int) = 0 := rfl
  have d1 : ∀ a b : Nat, deq (nD a) (nD b) = decide (a = b) := deq_nD
  have d0 : ∀ a : Nat, deq (nD a) (.int 0) = decide (a = 0) := fun a => deq_nD a 0
  simp only [F_check_table, wSeq, wIfS, wOr, wNot, wTest, wBin, wCall, wCons, wNil, wVar, wC, wNever, wNext, startE, List.getElem?_cons_zero, List.getElem?_cons_succ, List.set_cons_zero, List.set_cons_succ, List.map_cons, List.map_nil, List.cons_append, List.nil_append, List.length_cons, List.length_nil, List.replicate, Option.some.injEq, Slot.val.injEq, Slot.own.injEq, D.lst.injEq, exists_eq_left', exists_eq_left, exists_eq', true_and, and_true, Nat.reduceAdd, Nat.reduceSub, Nat.reduceLeDiff, Bool.false_eq_true, if_true, if_false, ↓reduceIte, Int.reduceMul, Int.reduceAdd, Int.reduceSub, Int.reduceNeg, Int.reduceLT, Int.reduceLE, Int.reduceEq, Nat.reduceMul, Nat.reduceLT, String.reduceEq, String.reduceNe, Int.reduceToNat, reduceCtorEq, Bool.not_true, Bool.not_false, Bool.true_or, Bool.or_true, Bool.false_or, Bool.or_false, Bool.true_and, Bool.and_true, Bool.false_and, Bool.and_false, Bool.not_eq_true', decide_eq_true_eq, decide_eq_false_iff_not, not_true_eq_false, not_false_eq_true, len_tab, len_row, ix_tab0 e0, dEq, plain_nD, plain_int, d0, n1, n2, decide_false, dBool, wLc, wItems, wipeE]
  refine comp_map (k := rowD) (g := fun _ => D.bl true) T [] _ (by simp; omega) (fun x hx P pp => ?_) ?_
  · simp only [wBind, bindT, wBin, wCall, wCons, wNil, wVar, wC, List.getElem?_cons_zero, List.getElem?_cons_succ, List.set_cons_zero, List.set_cons_succ, List.map_cons, List.map_nil, List.cons_append, List.nil_append, List.length_cons, List.length_nil, List.replicate, Option.some.injEq, Slot.val.injEq, Slot.own.injEq, D.lst.injEq, exists_eq_left', exists_eq_left, exists_eq', true_and, and_true, Nat.reduceAdd, Nat.reduceSub, Nat.reduceLeDiff, Bool.false_eq_true, if_true, if_false, ↓reduceIte, Int.reduceMul, Int.reduceAdd, Int.reduceSub, Int.reduceNeg, Int.reduceLT, Int.reduceLE, Int.reduceEq, Nat.reduceMul, Nat.reduceLT, String.reduceEq, String.reduceNe, Int.reduceToNat, reduceCtorEq, Bool.not_true, Bool.not_false, Bool.true_or, Bool.or_true, Bool.false_or, Bool.or_false, Bool.true_and, Bool.and_true, Bool.false_and, Bool.and_false, Bool.not_eq_true', decide_eq_true_eq, decide_eq_false_iff_not, not_true_eq_false, not_false_eq_true, dEq, len_row, ix_tab0 e0, plain_nD, d1, h.len x hx, er, decide_true]
    exact pp
  · simp only [bAll, List.nil_append, bools_map, Option.some.injEq, exists_eq_left']
    have e : (T.map fun _ => true).all id = true := by simp
    rw [e]
    simp only [List.getElem?_cons_zero, List.getElem?_cons_succ, List.set_cons_zero, List.set_cons_succ, List.map_cons, List.map_nil, List.cons_append, List.nil_append, List.length_cons, List.length_nil, List.replicate, Option.some.injEq, Slot.val.injEq, Slot.own.injEq, D.lst.injEq, exists_eq_left', exists_eq_left, exists_eq', true_and, and_true, Nat.reduceAdd, Nat.reduceSub, Nat.reduceLeDiff, Bool.false_eq_true, if_true, if_false, ↓reduceIte, Int.reduceMul, Int.reduceAdd, Int.reduceSub, Int.reduceNeg, Int.reduceLT, Int.reduceLE, Int.reduceEq, Nat.reduceMul, Nat.reduceLT, String.reduceEq, String.reduceNe, Int.reduceToNat, reduceCtorEq, Bool.not_true, Bool.not_false, Bool.true_or, Bool.or_true, Bool.false_or, Bool.or_false, Bool.true_and, Bool.and_true, Bool.false_and, Bool.and_false, Bool.not_eq_true', decide_eq_true_eq, decide_eq_false_iff_not, not_true_eq_false, not_false_eq_true, dBool, AEnds.fn]
    exact q
def φ_column : Fn := fun ds Q => ∃ (T : List (List Rat)) (q : Nat), ds = [tabD T, .int (q : Nat)] ∧ Tb T ∧ q < wid T ∧ Q (.lst ((colL T q).map fr))
theorem len_column (ds : List D) (Q : D → Prop) (h : φ_column ds Q) : ds.length = 2 := by obtain ⟨_, _, rfl, _⟩ := h; rfl
theorem cl_column (T : List (List Rat)) (q : Nat) (Q : D → Prop) : φ_column [tabD T, .int (q : Nat)] Q = (Tb T ∧ q < wid T ∧ Q (.lst ((colL T q).map fr))) := propext ⟨fun ⟨t, u, e, h⟩ => by simp only [List.cons.injEq, tab_inj, nat_cast_inj, and_true] at e; rw [e.1, e.2]; exact h, fun h => ⟨T, q, rfl, h⟩⟩
/-- column(table, question): slots 0=table 1=question 2=row -/
def F_column : FS :=
  (wRet (wLc (wItems (wVar 0)) (.name 2) wYes (wBin dIx (wVar 2) (wVar 1)) [2]))

theorem r_column (ds : List D) (Q : D → Prop) (h : φ_column ds Q) : F_column (AEnds.fn Q) (startE 3 ds) := by
  obtain ⟨T, k, rfl, h, hk, q⟩ := h
  have few := h.few
  simp only [F_column, wRet, wLc, wItems, wVar, wipeE, startE, AEnds.fn, tabD, List.getElem?_cons_zero, List.getElem?_cons_succ, List.set_cons_zero, List.set_cons_succ, List.map_cons, List.map_nil, List.cons_append, List.nil_append, List.length_cons, List.length_nil, List.replicate, Option.some.injEq, Slot.val.injEq, Slot.own.injEq, D.lst.injEq, exists_eq_left', exists_eq_left, exists_eq', true_and, and_true, Nat.reduceAdd, Nat.reduceSub, Nat.reduceLeDiff, Bool.false_eq_true, if_true, if_false, ↓reduceIte, Int.reduceMul, Int.reduceAdd, Int.reduceSub, Int.reduceNeg, Int.reduceLT, Int.reduceLE, Int.reduceEq, Nat.reduceMul, Nat.reduceLT, String.reduceEq, String.reduceNe, Int.reduceToNat, reduceCtorEq, Bool.not_true, Bool.not_false, Bool.true_or, Bool.or_true, Bool.false_or, Bool.or_false, Bool.true_and, Bool.and_true, Bool.false_and, Bool.and_false, Bool.not_eq_true', decide_eq_true_eq, decide_eq_false_iff_not, not_true_eq_false, not_false_eq_true]
  refine comp_map (k := rowD) (g := fun r => fr (at_ r k)) T [] _ (by simp; omega) (fun x hx P pp => ?_) ?_
  · simp only [wBind, bindT, wBin, wVar, List.getElem?_cons_zero, List.getElem?_cons_succ, List.set_cons_zero, List.set_cons_succ, List.map_cons, List.map_nil, List.cons_append, List.nil_append, List.length_cons, List.length_nil, List.replicate, Option.some.injEq, Slot.val.injEq, Slot.own.injEq, D.lst.injEq, exists_eq_left', exists_eq_left, exists_eq', true_and, and_true, Nat.reduceAdd, Nat.reduceSub, Nat.reduceLeDiff, Bool.false_eq_true, if_true, if_false, ↓reduceIte, Int.reduceMul, Int.reduceAdd, Int.reduceSub, Int.reduceNeg, Int.reduceLT, Int.reduceLE, Int.reduceEq, Nat.reduceMul, Nat.reduceLT, String.reduceEq, String.reduceNe, Int.reduceToNat, reduceCtorEq, Bool.not_true, Bool.not_false, Bool.true_or, Bool.or_true, Bool.false_or, Bool.or_false, Bool.true_and, Bool.and_true, Bool.false_and, Bool.and_false, Bool.not_eq_true', decide_eq_true_eq, decide_eq_false_iff_not, not_true_eq_false, not_false_eq_true, ix_row (show k < x.length by rw [h.len x hx]; exact hk)]
    exact pp
  · have e : [] ++ T.map (fun r => fr (at_ r k)) = (colL T k).map fr := by unfold colL; rw [List.map_map]; rfl
    rw [e]
    exact q
def φ_totals : Fn := fun ds Q => ∃ T : List (List Rat), ds = [tabD T] ∧ Tb T ∧ Q (.lst ((totL T).map fr))
theorem len_totals (ds : List D) (Q : D → Prop) (h : φ_totals ds Q) : ds.length = 1 := by obtain ⟨_, rfl, _⟩ := h; rfl
theorem cl_totals (T : List (List Rat)) (Q : D → Prop) : φ_totals [tabD T] Q = (Tb T ∧ Q (.lst ((totL T).map fr))) := propext ⟨fun ⟨t, e, h⟩ => by simp only [List.cons.injEq, tab_inj, and_true] at e; rw [e]; exact h, fun h => ⟨T, rfl, h⟩⟩
/-- totals(table): slots 0=table 1=row -/
def F_totals : FS :=
  (wRet (wLc (wItems (wVar 0)) (.name 1) wYes (wCall φ_total_of (wCons (wVar 1) wNil)) [1]))

theorem tot_row {T : List (List Rat)} (h : Tb T) {x : List Rat} (hx : x ∈ T) (Q : D → Prop) : φ_total_of [rowD x] Q = Q (fr (sumR x)) := by
  have := h.len x hx
  have := h.m4
  unfold rowD
  rw [cl_total_of, eq_true (show x.length ≤ 6 by omega), eq_true (h.smm hx), true_and, true_and]
theorem r_totals (ds : List D) (Q : D → Prop) (h : φ_totals ds Q) : F_totals (AEnds.fn Q) (startE 2 ds) := by
  obtain ⟨T, rfl, h, q⟩ := h
  have few := h.few
  simp only [F_totals, wRet, wLc, wItems, wVar, wipeE, startE, AEnds.fn, tabD, List.getElem?_cons_zero, List.getElem?_cons_succ, List.set_cons_zero, List.set_cons_succ, List.map_cons, List.map_nil, List.cons_append, List.nil_append, List.length_cons, List.length_nil, List.replicate, Option.some.injEq, Slot.val.injEq, Slot.own.injEq, D.lst.injEq, exists_eq_left', exists_eq_left, exists_eq', true_and, and_true, Nat.reduceAdd, Nat.reduceSub, Nat.reduceLeDiff, Bool.false_eq_true, if_true, if_false, ↓reduceIte, Int.reduceMul, Int.reduceAdd, Int.reduceSub, Int.reduceNeg, Int.reduceLT, Int.reduceLE, Int.reduceEq, Nat.reduceMul, Nat.reduceLT, String.reduceEq, String.reduceNe, Int.reduceToNat, reduceCtorEq, Bool.not_true, Bool.not_false, Bool.true_or, Bool.or_true, Bool.false_or, Bool.or_false, Bool.true_and, Bool.and_true, Bool.false_and, Bool.and_false, Bool.not_eq_true', decide_eq_true_eq, decide_eq_false_iff_not, not_true_eq_false, not_false_eq_true]
  refine comp_map (k := rowD) (g := fun r => fr (sumR r)) T [] _ (by simp; omega) (fun x hx P pp => ?_) ?_
  · simp only [wBind, bindT, wCall, wCons, wNil, wVar, List.getElem?_cons_zero, List.getElem?_cons_succ, List.set_cons_zero, List.set_cons_succ, List.map_cons, List.map_nil, List.cons_append, List.nil_append, List.length_cons, List.length_nil, List.replicate, Option.some.injEq, Slot.val.injEq, Slot.own.injEq, D.lst.injEq, exists_eq_left', exists_eq_left, exists_eq', true_and, and_true, Nat.reduceAdd, Nat.reduceSub, Nat.reduceLeDiff, Bool.false_eq_true, if_true, if_false, ↓reduceIte, Int.reduceMul, Int.reduceAdd, Int.reduceSub, Int.reduceNeg, Int.reduceLT, Int.reduceLE, Int.reduceEq, Nat.reduceMul, Nat.reduceLT, String.reduceEq, String.reduceNe, Int.reduceToNat, reduceCtorEq, Bool.not_true, Bool.not_false, Bool.true_or, Bool.or_true, Bool.false_or, Bool.or_false, Bool.true_and, Bool.and_true, Bool.false_and, Bool.and_false, Bool.not_eq_true', decide_eq_true_eq, decide_eq_false_iff_not, not_true_eq_false, not_false_eq_true, tot_row h hx]
    exact pp
  · have e : [] ++ T.map (fun r => fr (sumR r)) = (totL T).map fr := by unfold totL; rw [List.map_map]; rfl
    rw [e]
    exact q
def φ_rest : Fn := fun ds Q => ∃ (T : List (List Rat)) (q : Nat), ds = [tabD T, .int (q : Nat)] ∧ Tb T ∧ q < wid T ∧ Q (.lst ((rstL T q).map fr))
theorem len_rest (ds : List D) (Q : D → Prop) (h : φ_rest ds Q) : ds.length = 2 := by obtain ⟨_, _, rfl, _⟩ := h; rfl
theorem cl_rest (T : List (List Rat)) (q : Nat) (Q : D → Prop) : φ_rest [tabD T, .int (q : Nat)] Q = (Tb T ∧ q < wid T ∧ Q (.lst ((rstL T q).map fr))) := propext ⟨fun ⟨t, u, e, h⟩ => by simp only [List.cons.injEq, tab_inj, nat_cast_inj, and_true] at e; rw [e.1, e.2]; exact h, fun h => ⟨T, q, rfl, h⟩⟩
/-- rest(table, question): slots 0=table 1=question 2=row -/
def F_rest : FS :=
  (wRet (wLc (wItems (wVar 0)) (.name 2) wYes (wCall φ_minus (wCons (wCall φ_total_of (wCons (wVar 2) wNil)) (wCons (wBin dIx (wVar 2) (wVar 1)) wNil))) [2]))

theorem r_rest (ds : List D) (Q : D → Prop) (h : φ_rest ds Q) : F_rest (AEnds.fn Q) (startE 3 ds) := by
  obtain ⟨T, k, rfl, h, hk, q⟩ := h
  have few := h.few
  simp only [F_rest, wRet, wLc, wItems, wVar, wipeE, startE, AEnds.fn, tabD, List.getElem?_cons_zero, List.getElem?_cons_succ, List.set_cons_zero, List.set_cons_succ, List.map_cons, List.map_nil, List.cons_append, List.nil_append, List.length_cons, List.length_nil, List.replicate, Option.some.injEq, Slot.val.injEq, Slot.own.injEq, D.lst.injEq, exists_eq_left', exists_eq_left, exists_eq', true_and, and_true, Nat.reduceAdd, Nat.reduceSub, Nat.reduceLeDiff, Bool.false_eq_true, if_true, if_false, ↓reduceIte, Int.reduceMul, Int.reduceAdd, Int.reduceSub, Int.reduceNeg, Int.reduceLT, Int.reduceLE, Int.reduceEq, Nat.reduceMul, Nat.reduceLT, String.reduceEq, String.reduceNe, Int.reduceToNat, reduceCtorEq, Bool.not_true, Bool.not_false, Bool.true_or, Bool.or_true, Bool.false_or, Bool.or_false, Bool.true_and, Bool.and_true, Bool.false_and, Bool.and_false, Bool.not_eq_true', decide_eq_true_eq, decide_eq_false_iff_not, not_true_eq_false, not_false_eq_true]
  refine comp_map (k := rowD) (g := fun r => fr (sumR r - at_ r k)) T [] _ (by simp; omega) (fun x hx P pp => ?_) ?_
  · have s1 : Sz 1900 (sumR x) := ((h.tot hx).sz (n := 12) (by omega) (by omega) (by omega)).mono (by omega)
    have s2 : Sz 1900 (at_ x k) := ((h.at hx hk).sz (n := 12) (by omega) (by omega) (by omega)).mono (by omega)
    simp only [wBind, bindT, wBin, wCall, wCons, wNil, wVar, List.getElem?_cons_zero, List.getElem?_cons_succ, List.set_cons_zero, List.set_cons_succ, List.map_cons, List.map_nil, List.cons_append, List.nil_append, List.length_cons, List.length_nil, List.replicate, Option.some.injEq, Slot.val.injEq, Slot.own.injEq, D.lst.injEq, exists_eq_left', exists_eq_left, exists_eq', true_and, and_true, Nat.reduceAdd, Nat.reduceSub, Nat.reduceLeDiff, Bool.false_eq_true, if_true, if_false, ↓reduceIte, Int.reduceMul, Int.reduceAdd, Int.reduceSub, Int.reduceNeg, Int.reduceLT, Int.reduceLE, Int.reduceEq, Nat.reduceMul, Nat.reduceLT, String.reduceEq, String.reduceNe, Int.reduceToNat, reduceCtorEq, Bool.not_true, Bool.not_false, Bool.true_or, Bool.or_true, Bool.false_or, Bool.or_false, Bool.true_and, Bool.and_true, Bool.false_and, Bool.and_false, Bool.not_eq_true', decide_eq_true_eq, decide_eq_false_iff_not, not_true_eq_false, not_false_eq_true, tot_row h hx, ix_row (show k < x.length by rw [h.len x hx]; exact hk), cl_minus, s1, s2]
    exact pp
  · have e : [] ++ T.map (fun r => fr (sumR r - at_ r k)) = (rstL T k).map fr := by unfold rstL; rw [List.map_map]; rfl
    rw [e]
    exact q
def φ_discrimination : Fn := fun ds Q => ∃ (T : List (List Rat)) (q : Nat), ds = [tabD T, .int (q : Nat)] ∧ Tb T ∧ q < wid T ∧ prR (colL T q) (colL T q) * prR (rstL T q) (rstL T q) ≠ 0 ∧ Q (.tup [.int (sgR (prR (colL T q) (rstL T q))), fr (sqR (colL T q) (rstL T q))])
theorem len_discrimination (ds : List D) (Q : D → Prop) (h : φ_discrimination ds Q) : ds.length = 2 := by obtain ⟨_, _, rfl, _⟩ := h; rfl
def ψ_discrimination : List D → Prop := fun ds => ∃ (T : List (List Rat)) (q : Nat), ds = [tabD T, .int (q : Nat)] ∧ Tb T ∧ q < wid T ∧ prR (colL T q) (colL T q) * prR (rstL T q) (rstL T q) = 0
theorem lenx_discrimination (ds : List D) (h : ψ_discrimination ds) : ds.length = 2 := by obtain ⟨_, _, rfl, _⟩ := h; rfl
theorem Tb.rws {T : List (List Rat)} (h : Tb T) {q : Nat} (hq : q < wid T) : Rws (colL T q) (rstL T q) := ⟨h.col hq, h.rst hq, by simp [colL, rstL]⟩
/-- discrimination(table, question): slots 0=table 1=question -/
def F_discrimination : FS :=
  (wSeq (wDrop (wCall φ_check_table (wCons (wVar 0) wNil)))
    (wRet (wCall φ_correlation (wCons (wCall φ_column (wCons (wVar 0) (wCons (wVar 1) wNil))) (wCons (wCall φ_rest (wCons (wVar 0) (wCons (wVar 1) wNil))) wNil)))))
def FX_discrimination : FX :=
  (fun env => (wDrop (wCall φ_check_table (wCons (wVar 0) wNil))) { nx := (fun env => (wCons (wCall φ_column (wCons (wVar 0) (wCons (wVar 1) wNil))) (wCons (wCall φ_rest (wCons (wVar 0) (wCons (wVar 1) wNil))) wNil)) env ψ_correlation), rt := fun _ => False } env)

theorem r_discrimination (ds : List D) (Q : D → Prop) (h : φ_discrimination ds Q) : F_discrimination (AEnds.fn Q) (startE 2 ds) := by
  obtain ⟨T, k, rfl, h, hk, z, q⟩ := h
  simp only [F_discrimination, wSeq, wDrop, wRet, wCall, wCons, wNil, wVar, startE, AEnds.fn, List.getElem?_cons_zero, List.getElem?_cons_succ, List.set_cons_zero, List.set_cons_succ, List.map_cons, List.map_nil, List.cons_append, List.nil_append, List.length_cons, List.length_nil, List.replicate, Option.some.injEq, Slot.val.injEq, Slot.own.injEq, D.lst.injEq, exists_eq_left', exists_eq_left, exists_eq', true_and, and_true, Nat.reduceAdd, Nat.reduceSub, Nat.reduceLeDiff, Bool.false_eq_true, if_true, if_false, ↓reduceIte, Int.reduceMul, Int.reduceAdd, Int.reduceSub, Int.reduceNeg, Int.reduceLT, Int.reduceLE, Int.reduceEq, Nat.reduceMul, Nat.reduceLT, String.reduceEq, String.reduceNe, Int.reduceToNat, reduceCtorEq, Bool.not_true, Bool.not_false, Bool.true_or, Bool.or_true, Bool.false_or, Bool.or_false, Bool.true_and, Bool.and_true, Bool.false_and, Bool.and_false, Bool.not_eq_true', decide_eq_true_eq, decide_eq_false_iff_not, not_true_eq_false, not_false_eq_true, cl_check_table, cl_column, cl_rest, h, hk]
  exact ⟨_, _, rfl, h.rws hk, z, q⟩
theorem rx_discrimination (ds : List D) (h : ψ_discrimination ds) : FX_discrimination (startE 2 ds) := by
  obtain ⟨T, k, rfl, h, hk, z⟩ := h
  simp only [FX_discrimination, wDrop, wCall, wCons, wNil, wVar, startE, List.getElem?_cons_zero, List.getElem?_cons_succ, List.set_cons_zero, List.set_cons_succ, List.map_cons, List.map_nil, List.cons_append, List.nil_append, List.length_cons, List.length_nil, List.replicate, Option.some.injEq, Slot.val.injEq, Slot.own.injEq, D.lst.injEq, exists_eq_left', exists_eq_left, exists_eq', true_and, and_true, Nat.reduceAdd, Nat.reduceSub, Nat.reduceLeDiff, Bool.false_eq_true, if_true, if_false, ↓reduceIte, Int.reduceMul, Int.reduceAdd, Int.reduceSub, Int.reduceNeg, Int.reduceLT, Int.reduceLE, Int.reduceEq, Nat.reduceMul, Nat.reduceLT, String.reduceEq, String.reduceNe, Int.reduceToNat, reduceCtorEq, Bool.not_true, Bool.not_false, Bool.true_or, Bool.or_true, Bool.false_or, Bool.or_false, Bool.true_and, Bool.and_true, Bool.false_and, Bool.and_false, Bool.not_eq_true', decide_eq_true_eq, decide_eq_false_iff_not, not_true_eq_false, not_false_eq_true, cl_check_table, cl_column, cl_rest, h, hk]
  exact ⟨_, _, rfl, h.rws hk, z⟩
def φ_reliability : Fn := fun ds Q => ∃ T : List (List Rat), ds = [tabD T] ∧ Tb T ∧ 2 ≤ wid T ∧ varR (totL T) ≠ 0 ∧ Q (fr (relR (wid T) (parV T) (varR (totL T))))
theorem len_reliability (ds : List D) (Q : D → Prop) (h : φ_reliability ds Q) : ds.length = 1 := by obtain ⟨_, rfl, _⟩ := h; rfl
def ψ_reliability : List D → Prop := fun ds => ∃ T : List (List Rat), ds = [tabD T] ∧ Tb T ∧ (wid T < 2 ∨ varR (totL T) = 0)
theorem lenx_reliability (ds : List D) (h : ψ_reliability ds) : ds.length = 1 := by obtain ⟨_, rfl, _⟩ := h; rfl
theorem Rw.var {l : List Rat} (R : Rw l) : Rq (576 * l.length * l.length) 288000000 (varR l) := by
  obtain ⟨k, ek, b⟩ := R.pr R rfl
  refine ⟨k, ?_, b⟩
  unfold varR
  rw [ek, Int.natCast_mul (576 * l.length), Rat.intCast_mul]
  generalize (((l.length : Nat) : Int) : Rat) = y
  generalize (((576 * l.length : Nat) : Int) : Rat) = x
  rw [Rat.div_def, Rat.div_def, Rat.div_def, Rat.inv_mul_rev]
  grind
theorem Tb.parq {T : List (List Rat)} (h : Tb T) : ∀ x ∈ (List.range (wid T)).map fun q => varR (colL T q), Rq (576 * T.length * T.length) 288000000 x := fun x hx => by
  obtain ⟨q, hq, rfl⟩ := List.mem_map.mp hx
  have := (h.col (List.mem_range.mp hq)).var
  rw [show (colL T q).length = T.length by simp [colL]] at this
  exact this
theorem Tb.n0 {T : List (List Rat)} (h : Tb T) : 0 < T.length := List.length_pos_iff.mpr h.ne
theorem Tb.M {T : List (List Rat)} (h : Tb T) : 0 < 576 * T.length * T.length ∧ 576 * T.length * T.length ≤ 20736 := by
  have n0 := h.n0
  have few := h.few
  exact ⟨Nat.mul_pos (by omega) n0, Nat.le_trans (Nat.mul_le_mul (show 576 * T.length ≤ 3456 by omega) few) (by omega)⟩
theorem Tb.psm {T : List (List Rat)} (h : Tb T) : Smm ((List.range (wid T)).map fun q => varR (colL T q)) := by
  have := h.M
  exact ⟨_, _, ⟨this.1, by omega, by omega⟩, h.parq⟩
theorem Tb.parz {T : List (List Rat)} (h : Tb T) : Sz 31 (parV T) := by
  have M := h.M
  have m4 := h.m4
  refine ((rq_sum h.parq).mono (N' := 1152000000) ?_).sz (by omega) (by omega) (by omega)
  rw [List.length_map, List.length_range]
  omega
theorem Tb.totz {T : List (List Rat)} (h : Tb T) : Sz 31 (varR (totL T)) := by
  have M := h.M
  have := h.totw.var
  rw [show (totL T).length = T.length by simp [totL]] at this
  exact this.sz (by omega) (by omega) (by omega)
/-- reliability(table): slots 0=table 1=many 2=parts 3=whole_variance 4=question -/
def F_reliability : FS :=
  (wSeq (wDrop (wCall φ_check_table (wCons (wVar 0) wNil)))
    (wSeq (wSet 1 (wCall bLen (wCons (wBin dIx (wVar 0) (wC (.int 0))) wNil)))
    (wSeq (wIfS (wTest (wBin dLt (wVar 1) (wC (.int 2))))
      wNever
      wNext)
    (wSeq (wSet 2 (wCall φ_total_of (wCons (wLc (wRng1 (wCons (wVar 1) wNil)) (.name 4) wYes (wCall φ_variance (wCons (wCall φ_column (wCons (wVar 0) (wCons (wVar 4) wNil))) wNil)) [4]) wNil)))
    (wSeq (wSet 3 (wCall φ_variance (wCons (wCall φ_totals (wCons (wVar 0) wNil)) wNil)))
    (wRet (wCall φ_times (wCons (wCall φ_over (wCons (wCall φ_whole (wCons (wVar 1) wNil)) (wCons (wCall φ_whole (wCons (wBin dSub (wVar 1) (wC (.int 1))) wNil)) wNil))) (wCons (wCall φ_minus (wCons (wC c_ONE) (wCons (wCall φ_over (wCons (wVar 2) (wCons (wVar 3) wNil))) wNil))) wNil)))))))))
def FX_reliability : FX :=
  (fun env => (wDrop (wCall φ_check_table (wCons (wVar 0) wNil))) { nx := (fun env => (wSet 1 (wCall bLen (wCons (wBin dIx (wVar 0) (wC (.int 0))) wNil))) { nx := (fun env => (wTest (wBin dLt (wVar 1) (wC (.int 2)))) env fun b => b = true ∨ (fun env => (wSet 2 (wCall φ_total_of (wCons (wLc (wRng1 (wCons (wVar 1) wNil)) (.name 4) wYes (wCall φ_variance (wCons (wCall φ_column (wCons (wVar 0) (wCons (wVar 4) wNil))) wNil)) [4]) wNil))) { nx := (fun env => (wSet 3 (wCall φ_variance (wCons (wCall φ_totals (wCons (wVar 0) wNil)) wNil))) { nx := (fun env => (wCall φ_over (wCons (wCall φ_whole (wCons (wVar 1) wNil)) (wCons (wCall φ_whole (wCons (wBin dSub (wVar 1) (wC (.int 1))) wNil)) wNil))) env fun _ => (fun env => (wC c_ONE) env fun _ => (fun env => (wCons (wVar 2) (wCons (wVar 3) wNil)) env ψ_over) env) env), rt := fun _ => False } env), rt := fun _ => False } env) env), rt := fun _ => False } env), rt := fun _ => False } env)

theorem cl_var {l : List Rat} (R : Rw l) (Q : D → Prop) : φ_variance [.lst (l.map fr)] Q = Q (fr (varR l)) := by
  rw [cl_variance, eq_true R, true_and]
  rfl
theorem rel_comp {T : List (List Rat)} (h : Tb T) {s1 s2 s3 : Slot} (Q : D → Prop) (q : φ_total_of [.lst (((List.range (wid T)).map fun q => varR (colL T q)).map fr)] Q) : wComp (.name 4) wYes (wCall φ_variance (wCons (wCall φ_column (wCons (wVar 0) (wCons (wVar 4) wNil))) wNil)) [.val (tabD T), s1, s2, s3, .non] (rngD 0 (wid T)) [] fun x => φ_total_of [x] Q := by
  have m4 := h.m4
  have e : rngD 0 (wid T) = (List.range (wid T)).map nD := rng_nD _
  rw [e]
  refine comp_map (k := nD) (g := fun q => fr (varR (colL T q))) (List.range (wid T)) [] _ (by simp; omega) (fun i hi P pp => ?_) ?_
  · have hi := List.mem_range.mp hi
    simp only [wBind, bindT, wCall, wCons, wNil, wVar, List.getElem?_cons_zero, List.getElem?_cons_succ, List.set_cons_zero, List.set_cons_succ, List.map_cons, List.map_nil, List.cons_append, List.nil_append, List.length_cons, List.length_nil, List.replicate, Option.some.injEq, Slot.val.injEq, Slot.own.injEq, D.lst.injEq, exists_eq_left', exists_eq_left, exists_eq', true_and, and_true, Nat.reduceAdd, Nat.reduceSub, Nat.reduceLeDiff, Bool.false_eq_true, if_true, if_false, ↓reduceIte, Int.reduceMul, Int.reduceAdd, Int.reduceSub, Int.reduceNeg, Int.reduceLT, Int.reduceLE, Int.reduceEq, Nat.reduceMul, Nat.reduceLT, String.reduceEq, String.reduceNe, Int.reduceToNat, reduceCtorEq, Bool.not_true, Bool.not_false, Bool.true_or, Bool.or_true, Bool.false_or, Bool.or_false, Bool.true_and, Bool.and_true, Bool.false_and, Bool.and_false, Bool.not_eq_true', decide_eq_true_eq, decide_eq_false_iff_not, not_true_eq_false, not_false_eq_true, nD, cl_column, h, hi, cl_var (h.col hi)]
    exact pp
  · have e : [] ++ (List.range (wid T)).map (fun q => fr (varR (colL T q))) = ((List.range (wid T)).map fun q => varR (colL T q)).map fr := by rw [List.map_map]; rfl
    rw [e]
    exact q
theorem r_reliability (ds : List D) (Q : D → Prop) (h : φ_reliability ds Q) : F_reliability (AEnds.fn Q) (startE 5 ds) := by
  obtain ⟨T, rfl, h, h2, z, q⟩ := h
  obtain ⟨r, e0, er⟩ := h.hd
  have m4 := h.m4
  have lt : ¬ ((wid T : Nat) : Int) < 2 := by omega
  have b1 : (0 : Int) ≤ (wid T : Nat) := by omega
  have b2 : ((wid T : Nat) : Int) ≤ 1000000 := by omega
  simp only [F_reliability, wSeq, wDrop, wSet, wIfS, wTest, wBin, wCall, wCons, wNil, wVar, wC, wNever, wNext, startE, List.getElem?_cons_zero, List.getElem?_cons_succ, List.set_cons_zero, List.set_cons_succ, List.map_cons, List.map_nil, List.cons_append, List.nil_append, List.length_cons, List.length_nil, List.replicate, Option.some.injEq, Slot.val.injEq, Slot.own.injEq, D.lst.injEq, exists_eq_left', exists_eq_left, exists_eq', true_and, and_true, Nat.reduceAdd, Nat.reduceSub, Nat.reduceLeDiff, Bool.false_eq_true, if_true, if_false, ↓reduceIte, Int.reduceMul, Int.reduceAdd, Int.reduceSub, Int.reduceNeg, Int.reduceLT, Int.reduceLE, Int.reduceEq, Nat.reduceMul, Nat.reduceLT, String.reduceEq, String.reduceNe, Int.reduceToNat, reduceCtorEq, Bool.not_true, Bool.not_false, Bool.true_or, Bool.or_true, Bool.false_or, Bool.or_false, Bool.true_and, Bool.and_true, Bool.false_and, Bool.and_false, Bool.not_eq_true', decide_eq_true_eq, decide_eq_false_iff_not, not_true_eq_false, not_false_eq_true, cl_check_table, h, len_row, ix_tab0 e0, er, nD, dInt2, dLt, lt, decide_false, dBool, wLc, wRng1, wipeE, Int.toNat_natCast]
  refine ⟨by omega, rel_comp h _ ?_⟩
  have few : ((List.range (wid T)).map fun q => varR (colL T q)).length ≤ 6 := by simp; omega
  have p1 := h.parz.mono (show 31 ≤ 1900 by omega)
  have p2 := h.totz.mono (show 31 ≤ 1900 by omega)
  have p3 := h.parz.div h.totz
  have s1 : Sz 2 (1 : Rat) := Sz.int (i := 1) (by omega) (by omega)
  have pe : sumR ((List.range (wid T)).map fun q => varR (colL T q)) = parV T := rfl
  have s2 : Sz 3 ((((wid T : Nat) : Int)) : Rat) := Sz.int (by omega) (by omega)
  have s3 : Sz 3 ((((wid T : Nat) : Int) - 1 : Int) : Rat) := Sz.int (by omega) (by omega)
  have n0 : ((((wid T : Nat) : Int) - 1 : Int) : Rat) ≠ 0 := by
    intro y
    have y2 : ((((wid T : Nat) : Int) - 1 : Int) : Rat) = ((0 : Int) : Rat) := y
    rw [Rat.intCast_inj] at y2
    omega
  have s4 := s2.div s3
  have s5 := s1.sub p3
  simp only [cl_total_of, few, h.psm, pe, p1, p2, List.getElem?_cons_zero, List.getElem?_cons_succ, List.set_cons_zero, List.set_cons_succ, List.map_cons, List.map_nil, List.cons_append, List.nil_append, List.length_cons, List.length_nil, List.replicate, Option.some.injEq, Slot.val.injEq, Slot.own.injEq, D.lst.injEq, exists_eq_left', exists_eq_left, exists_eq', true_and, and_true, Nat.reduceAdd, Nat.reduceSub, Nat.reduceLeDiff, Bool.false_eq_true, if_true, if_false, ↓reduceIte, Int.reduceMul, Int.reduceAdd, Int.reduceSub, Int.reduceNeg, Int.reduceLT, Int.reduceLE, Int.reduceEq, Nat.reduceMul, Nat.reduceLT, String.reduceEq, String.reduceNe, Int.reduceToNat, reduceCtorEq, Bool.not_true, Bool.not_false, Bool.true_or, Bool.or_true, Bool.false_or, Bool.or_false, Bool.true_and, Bool.and_true, Bool.false_and, Bool.and_false, Bool.not_eq_true', decide_eq_true_eq, decide_eq_false_iff_not, not_true_eq_false, not_false_eq_true, wRet, wTup, wCall, wCons, wNil, wVar, wBin, wC,  cl_totals, h, cl_var h.totw, cl_whole, cl_over, cl_minus, cl_times, c_ONE_eq, dInt2, dSub, s2.mono (show 3 ≤ 1900 by omega), s3.mono (show 3 ≤ 1900 by omega), n0, ne_eq, z, s1.mono (show 2 ≤ 1900 by omega), p3.mono (show 31 + 31 ≤ 1900 by omega), s4.mono (show 3 + 3 ≤ 1900 by omega), AEnds.fn]
  exact ⟨s5.mono (by omega), q⟩
theorem rx_reliability (ds : List D) (h : ψ_reliability ds) : FX_reliability (startE 5 ds) := by
  obtain ⟨T, rfl, h, q⟩ := h
  obtain ⟨r, e0, er⟩ := h.hd
  have m4 := h.m4
  simp only [FX_reliability, wDrop, wSet, wTest, wBin, wCall, wCons, wNil, wVar, wC, startE, List.getElem?_cons_zero, List.getElem?_cons_succ, List.set_cons_zero, List.set_cons_succ, List.map_cons, List.map_nil, List.cons_append, List.nil_append, List.length_cons, List.length_nil, List.replicate, Option.some.injEq, Slot.val.injEq, Slot.own.injEq, D.lst.injEq, exists_eq_left', exists_eq_left, exists_eq', true_and, and_true, Nat.reduceAdd, Nat.reduceSub, Nat.reduceLeDiff, Bool.false_eq_true, if_true, if_false, ↓reduceIte, Int.reduceMul, Int.reduceAdd, Int.reduceSub, Int.reduceNeg, Int.reduceLT, Int.reduceLE, Int.reduceEq, Nat.reduceMul, Nat.reduceLT, String.reduceEq, String.reduceNe, Int.reduceToNat, reduceCtorEq, Bool.not_true, Bool.not_false, Bool.true_or, Bool.or_true, Bool.false_or, Bool.or_false, Bool.true_and, Bool.and_true, Bool.false_and, Bool.and_false, Bool.not_eq_true', decide_eq_true_eq, decide_eq_false_iff_not, not_true_eq_false, not_false_eq_true, cl_check_table, h, len_row, ix_tab0 e0, er, nD, dInt2, dLt, dSub, dBool]
  by_cases lt : wid T < 2
  · exact .inl (by omega)
  · have z := q.resolve_left lt
    refine .inr ?_
    unfold wLc
    simp only [wRng1, wCons, wNil, wVar, wipeE, List.getElem?_cons_zero, List.getElem?_cons_succ, List.set_cons_zero, List.set_cons_succ, List.map_cons, List.map_nil, List.cons_append, List.nil_append, List.length_cons, List.length_nil, List.replicate, Option.some.injEq, Slot.val.injEq, Slot.own.injEq, D.lst.injEq, exists_eq_left', exists_eq_left, exists_eq', true_and, and_true, Nat.reduceAdd, Nat.reduceSub, Nat.reduceLeDiff, Bool.false_eq_true, if_true, if_false, ↓reduceIte, Int.reduceMul, Int.reduceAdd, Int.reduceSub, Int.reduceNeg, Int.reduceLT, Int.reduceLE, Int.reduceEq, Nat.reduceMul, Nat.reduceLT, String.reduceEq, String.reduceNe, Int.reduceToNat, reduceCtorEq, Bool.not_true, Bool.not_false, Bool.true_or, Bool.or_true, Bool.false_or, Bool.or_false, Bool.true_and, Bool.and_true, Bool.false_and, Bool.and_false, Bool.not_eq_true', decide_eq_true_eq, decide_eq_false_iff_not, not_true_eq_false, not_false_eq_true, Int.toNat_natCast]
    refine ⟨by omega, rel_comp h (s1 := .val (.int (wid T : Nat))) (s2 := .non) (s3 := .non) _ ?_⟩
    have few : ((List.range (wid T)).map fun q => varR (colL T q)).length ≤ 6 := by simp; omega
    have p1 := h.parz.mono (show 31 ≤ 1900 by omega)
    have pe : sumR ((List.range (wid T)).map fun q => varR (colL T q)) = parV T := rfl
    have s2 : Sz 3 ((((wid T : Nat) : Int)) : Rat) := Sz.int (by omega) (by omega)
    have s3 : Sz 3 ((((wid T : Nat) : Int) - 1 : Int) : Rat) := Sz.int (by omega) (by omega)
    have n0 : ((((wid T : Nat) : Int) - 1 : Int) : Rat) ≠ 0 := by
      intro y
      have y2 : ((((wid T : Nat) : Int) - 1 : Int) : Rat) = ((0 : Int) : Rat) := y
      rw [Rat.intCast_inj] at y2
      omega
    simp only [cl_total_of, few, h.psm, pe, p1, List.getElem?_cons_zero, List.getElem?_cons_succ, List.set_cons_zero, List.set_cons_succ, List.map_cons, List.map_nil, List.cons_append, List.nil_append, List.length_cons, List.length_nil, List.replicate, Option.some.injEq, Slot.val.injEq, Slot.own.injEq, D.lst.injEq, exists_eq_left', exists_eq_left, exists_eq', true_and, and_true, Nat.reduceAdd, Nat.reduceSub, Nat.reduceLeDiff, Bool.false_eq_true, if_true, if_false, ↓reduceIte, Int.reduceMul, Int.reduceAdd, Int.reduceSub, Int.reduceNeg, Int.reduceLT, Int.reduceLE, Int.reduceEq, Nat.reduceMul, Nat.reduceLT, String.reduceEq, String.reduceNe, Int.reduceToNat, reduceCtorEq, Bool.not_true, Bool.not_false, Bool.true_or, Bool.or_true, Bool.false_or, Bool.or_false, Bool.true_and, Bool.and_true, Bool.false_and, Bool.and_false, Bool.not_eq_true', decide_eq_true_eq, decide_eq_false_iff_not, not_true_eq_false, not_false_eq_true, cl_totals, h, cl_var h.totw, cl_whole, cl_over, s2.mono (show 3 ≤ 1900 by omega), s3.mono (show 3 ≤ 1900 by omega), n0, ne_eq]
    rw [z]
    exact ⟨_, rfl, p1⟩
def φ_reliability_without : Fn := fun ds Q => ∃ (T : List (List Rat)) (q : Nat), ds = [tabD T, .int (q : Nat)] ∧ Tb T ∧ q < wid T ∧ 2 ≤ wid T ∧ 2 ≤ wid (delT T q) ∧ varR (totL (delT T q)) ≠ 0 ∧ Q (fr (relR (wid (delT T q)) (parV (delT T q)) (varR (totL (delT T q)))))
theorem len_reliability_without (ds : List D) (Q : D → Prop) (h : φ_reliability_without ds Q) : ds.length = 2 := by obtain ⟨_, _, rfl, _⟩ := h; rfl
def ψ_reliability_without : List D → Prop := fun ds => ∃ (T : List (List Rat)) (q : Nat), ds = [tabD T, .int (q : Nat)] ∧ Tb T ∧ q < wid T ∧ 2 ≤ wid T ∧ (wid (delT T q) < 2 ∨ varR (totL (delT T q)) = 0)
theorem lenx_reliability_without (ds : List D) (h : ψ_reliability_without ds) : ds.length = 2 := by obtain ⟨_, _, rfl, _⟩ := h; rfl
theorem del_len {n q : Nat} (h : q < n) : ((List.range n).filter fun k => k != q).length = n - 1 := by
  have e : (List.range n).erase q = (List.range n).filter fun k => k != q := List.Nodup.erase_eq_filter List.nodup_range q
  rw [← e, List.length_erase_of_mem (List.mem_range.mpr h), List.length_range]
theorem Tb.delw {T : List (List Rat)} (h : Tb T) {q : Nat} (hq : q < wid T) : wid (delT T q) = wid T - 1 := by
  cases T with
  | nil => exact absurd rfl h.ne
  | cons r T =>
    show (((List.range r.length).filter fun k => k != q).map (at_ r)).length = r.length - 1
    rw [List.length_map]
    exact del_len hq
theorem Tb.del {T : List (List Rat)} (h : Tb T) {q : Nat} (hq : q < wid T) (h2 : 2 ≤ wid T) : Tb (delT T q) := by
  have e := h.delw hq
  have m4 := h.m4
  refine ⟨by simpa [delT] using h.ne, by simpa [delT] using h.few, by omega, by omega, fun x hx => ?_, fun x hx y hy => ?_⟩
  · obtain ⟨r, hr, rfl⟩ := List.mem_map.mp hx
    rw [e, List.length_map, h.len r hr]
    exact del_len hq
  · obtain ⟨r, hr, rfl⟩ := List.mem_map.mp hx
    obtain ⟨k, hk, rfl⟩ := List.mem_map.mp hy
    have := List.mem_range.mp (List.mem_filter.mp hk).1
    exact h.q r hr _ (at_mem this)
/-- reliability_without(table, question): slots 0=table 1=question 2=row 3=k -/
def F_reliability_without : FS :=
  (wSeq (wDrop (wCall φ_check_table (wCons (wVar 0) wNil)))
    (wRet (wCall φ_reliability (wCons (wLc (wItems (wVar 0)) (.name 2) wYes (wLc (wRng1 (wCons (wCall bLen (wCons (wVar 2) wNil)) wNil)) (.name 3) (wTest (wBin dNe (wVar 3) (wVar 1))) (wBin dIx (wVar 2) (wVar 3)) [3]) [2]) wNil))))
def FX_reliability_without : FX :=
  (fun env => (wDrop (wCall φ_check_table (wCons (wVar 0) wNil))) { nx := (fun env => (wCons (wLc (wItems (wVar 0)) (.name 2) wYes (wLc (wRng1 (wCons (wCall bLen (wCons (wVar 2) wNil)) wNil)) (.name 3) (wTest (wBin dNe (wVar 3) (wVar 1))) (wBin dIx (wVar 2) (wVar 3)) [3]) [2]) wNil) env ψ_reliability), rt := fun _ => False } env)

theorem del_comp {T : List (List Rat)} (h : Tb T) {q : Nat} {s2 s3 : Slot} (Q : D → Prop) (h' : Q (tabD (delT T q))) : wComp (.name 2) wYes (wLc (wRng1 (wCons (wCall bLen (wCons (wVar 2) wNil)) wNil)) (.name 3) (wTest (wBin dNe (wVar 3) (wVar 1))) (wBin dIx (wVar 2) (wVar 3)) [3]) [.val (tabD T), .val (.int (q : Nat)), .non, s3] (T.map rowD) [] Q := by
  have few := h.few
  have m4 := h.m4
  refine comp_map (k := rowD) (g := fun r => rowD (((List.range r.length).filter fun k => k != q).map (at_ r))) T [] _ (by simp; omega) (fun r hr P pp => ?_) ?_
  · have lr := h.len r hr
    simp only [wBind, bindT, wLc, wRng1, wCall, wCons, wNil, wVar, wipeE, List.getElem?_cons_zero, List.getElem?_cons_succ, List.set_cons_zero, List.set_cons_succ, List.map_cons, List.map_nil, List.cons_append, List.nil_append, List.length_cons, List.length_nil, List.replicate, Option.some.injEq, Slot.val.injEq, Slot.own.injEq, D.lst.injEq, exists_eq_left', exists_eq_left, exists_eq', true_and, and_true, Nat.reduceAdd, Nat.reduceSub, Nat.reduceLeDiff, Bool.false_eq_true, if_true, if_false, ↓reduceIte, Int.reduceMul, Int.reduceAdd, Int.reduceSub, Int.reduceNeg, Int.reduceLT, Int.reduceLE, Int.reduceEq, Nat.reduceMul, Nat.reduceLT, String.reduceEq, String.reduceNe, Int.reduceToNat, reduceCtorEq, Bool.not_true, Bool.not_false, Bool.true_or, Bool.or_true, Bool.false_or, Bool.or_false, Bool.true_and, Bool.and_true, Bool.false_and, Bool.and_false, Bool.not_eq_true', decide_eq_true_eq, decide_eq_false_iff_not, not_true_eq_false, not_false_eq_true, len_row, nD, Int.toNat_natCast]
    refine ⟨by omega, ?_⟩
    have e : rngD 0 r.length = (List.range r.length).map nD := rng_nD _
    rw [e]
    refine comp_filter (k := nD) (g := fun i => fr (at_ r i)) (p := fun i => i != q) (List.range r.length) [] _ (by simp; omega) (fun i hi P pp => ?_) (fun i hi hp P pp e he => ?_) ?_
    · have := pp _ rfl
      simp only [wBind, bindT, wTest, wBin, wVar, List.getElem?_cons_zero, List.getElem?_cons_succ, List.set_cons_zero, List.set_cons_succ, List.map_cons, List.map_nil, List.cons_append, List.nil_append, List.length_cons, List.length_nil, List.replicate, Option.some.injEq, Slot.val.injEq, Slot.own.injEq, D.lst.injEq, exists_eq_left', exists_eq_left, exists_eq', true_and, and_true, Nat.reduceAdd, Nat.reduceSub, Nat.reduceLeDiff, Bool.false_eq_true, if_true, if_false, ↓reduceIte, Int.reduceMul, Int.reduceAdd, Int.reduceSub, Int.reduceNeg, Int.reduceLT, Int.reduceLE, Int.reduceEq, Nat.reduceMul, Nat.reduceLT, String.reduceEq, String.reduceNe, Int.reduceToNat, reduceCtorEq, Bool.not_true, Bool.not_false, Bool.true_or, Bool.or_true, Bool.false_or, Bool.or_false, Bool.true_and, Bool.and_true, Bool.false_and, Bool.and_false, Bool.not_eq_true', decide_eq_true_eq, decide_eq_false_iff_not, not_true_eq_false, not_false_eq_true, dNe, plain_nD, plain_int, dBool, nD]
      have d1 : deq (nD i) (nD q) = decide (i = q) := deq_nD i q
      simp only [nD] at d1
      simp only [d1, List.getElem?_cons_zero, List.getElem?_cons_succ, List.set_cons_zero, List.set_cons_succ, List.map_cons, List.map_nil, List.cons_append, List.nil_append, List.length_cons, List.length_nil, List.replicate, Option.some.injEq, Slot.val.injEq, Slot.own.injEq, D.lst.injEq, exists_eq_left', exists_eq_left, exists_eq', true_and, and_true, Nat.reduceAdd, Nat.reduceSub, Nat.reduceLeDiff, Bool.false_eq_true, if_true, if_false, ↓reduceIte, Int.reduceMul, Int.reduceAdd, Int.reduceSub, Int.reduceNeg, Int.reduceLT, Int.reduceLE, Int.reduceEq, Nat.reduceMul, Nat.reduceLT, String.reduceEq, String.reduceNe, Int.reduceToNat, reduceCtorEq, Bool.not_true, Bool.not_false, Bool.true_or, Bool.or_true, Bool.false_or, Bool.or_false, Bool.true_and, Bool.and_true, Bool.false_and, Bool.and_false, Bool.not_eq_true', decide_eq_true_eq, decide_eq_false_iff_not, not_true_eq_false, not_false_eq_true]
      by_cases c : i = q
      · subst c; simpa [bindT, nD] using this
      · have c2 : (i != q) = true := by simpa using c
        rw [c2] at this
        simpa [c, bindT, nD] using this
    · simp only [bindT, Option.some.injEq] at he
      subst he
      simp only [wBin, wVar, List.getElem?_cons_zero, List.getElem?_cons_succ, List.set_cons_zero, List.set_cons_succ, List.map_cons, List.map_nil, List.cons_append, List.nil_append, List.length_cons, List.length_nil, List.replicate, Option.some.injEq, Slot.val.injEq, Slot.own.injEq, D.lst.injEq, exists_eq_left', exists_eq_left, exists_eq', true_and, and_true, Nat.reduceAdd, Nat.reduceSub, Nat.reduceLeDiff, Bool.false_eq_true, if_true, if_false, ↓reduceIte, Int.reduceMul, Int.reduceAdd, Int.reduceSub, Int.reduceNeg, Int.reduceLT, Int.reduceLE, Int.reduceEq, Nat.reduceMul, Nat.reduceLT, String.reduceEq, String.reduceNe, Int.reduceToNat, reduceCtorEq, Bool.not_true, Bool.not_false, Bool.true_or, Bool.or_true, Bool.false_or, Bool.or_false, Bool.true_and, Bool.and_true, Bool.false_and, Bool.and_false, Bool.not_eq_true', decide_eq_true_eq, decide_eq_false_iff_not, not_true_eq_false, not_false_eq_true, nD, ix_row (List.mem_range.mp hi)]
      exact pp
    · have e : [] ++ ((List.range r.length).filter fun i => i != q).map (fun i => fr (at_ r i)) = (((List.range r.length).filter fun k => k != q).map (at_ r)).map fr := by rw [List.map_map]; rfl
      rw [e]
      exact pp
  · have e : D.lst ([] ++ T.map (fun r => rowD (((List.range r.length).filter fun k => k != q).map (at_ r)))) = tabD (delT T q) := by unfold tabD delT; rw [List.map_map]; rfl
    rw [e]
    exact h'
theorem r_reliability_without (ds : List D) (Q : D → Prop) (h : φ_reliability_without ds Q) : F_reliability_without (AEnds.fn Q) (startE 4 ds) := by
  obtain ⟨T, k, rfl, h, hk, h2, h3, z, q⟩ := h
  simp only [F_reliability_without, wSeq, wDrop, wRet, wCall, wCons, wNil, wVar, startE, AEnds.fn, List.getElem?_cons_zero, List.getElem?_cons_succ, List.set_cons_zero, List.set_cons_succ, List.map_cons, List.map_nil, List.cons_append, List.nil_append, List.length_cons, List.length_nil, List.replicate, Option.some.injEq, Slot.val.injEq, Slot.own.injEq, D.lst.injEq, exists_eq_left', exists_eq_left, exists_eq', true_and, and_true, Nat.reduceAdd, Nat.reduceSub, Nat.reduceLeDiff, Bool.false_eq_true, if_true, if_false, ↓reduceIte, Int.reduceMul, Int.reduceAdd, Int.reduceSub, Int.reduceNeg, Int.reduceLT, Int.reduceLE, Int.reduceEq, Nat.reduceMul, Nat.reduceLT, String.reduceEq, String.reduceNe, Int.reduceToNat, reduceCtorEq, Bool.not_true, Bool.not_false, Bool.true_or, Bool.or_true, Bool.false_or, Bool.or_false, Bool.true_and, Bool.and_true, Bool.false_and, Bool.and_false, Bool.not_eq_true', decide_eq_true_eq, decide_eq_false_iff_not, not_true_eq_false, not_false_eq_true, cl_check_table, h]
  unfold wLc
  simp only [wItems, wVar, wipeE, List.getElem?_cons_zero, List.getElem?_cons_succ, List.set_cons_zero, List.set_cons_succ, List.map_cons, List.map_nil, List.cons_append, List.nil_append, List.length_cons, List.length_nil, List.replicate, Option.some.injEq, Slot.val.injEq, Slot.own.injEq, D.lst.injEq, exists_eq_left', exists_eq_left, exists_eq', true_and, and_true, Nat.reduceAdd, Nat.reduceSub, Nat.reduceLeDiff, Bool.false_eq_true, if_true, if_false, ↓reduceIte, Int.reduceMul, Int.reduceAdd, Int.reduceSub, Int.reduceNeg, Int.reduceLT, Int.reduceLE, Int.reduceEq, Nat.reduceMul, Nat.reduceLT, String.reduceEq, String.reduceNe, Int.reduceToNat, reduceCtorEq, Bool.not_true, Bool.not_false, Bool.true_or, Bool.or_true, Bool.false_or, Bool.or_false, Bool.true_and, Bool.and_true, Bool.false_and, Bool.and_false, Bool.not_eq_true', decide_eq_true_eq, decide_eq_false_iff_not, not_true_eq_false, not_false_eq_true]
  unfold tabD
  simp only [List.getElem?_cons_zero, List.getElem?_cons_succ, List.set_cons_zero, List.set_cons_succ, List.map_cons, List.map_nil, List.cons_append, List.nil_append, List.length_cons, List.length_nil, List.replicate, Option.some.injEq, Slot.val.injEq, Slot.own.injEq, D.lst.injEq, exists_eq_left', exists_eq_left, exists_eq', true_and, and_true, Nat.reduceAdd, Nat.reduceSub, Nat.reduceLeDiff, Bool.false_eq_true, if_true, if_false, ↓reduceIte, Int.reduceMul, Int.reduceAdd, Int.reduceSub, Int.reduceNeg, Int.reduceLT, Int.reduceLE, Int.reduceEq, Nat.reduceMul, Nat.reduceLT, String.reduceEq, String.reduceNe, Int.reduceToNat, reduceCtorEq, Bool.not_true, Bool.not_false, Bool.true_or, Bool.or_true, Bool.false_or, Bool.or_false, Bool.true_and, Bool.and_true, Bool.false_and, Bool.and_false, Bool.not_eq_true', decide_eq_true_eq, decide_eq_false_iff_not, not_true_eq_false, not_false_eq_true]
  exact del_comp h (s2 := .non) (s3 := .non) _ ⟨_, rfl, h.del hk h2, h3, z, q⟩
theorem rx_reliability_without (ds : List D) (h : ψ_reliability_without ds) : FX_reliability_without (startE 4 ds) := by
  obtain ⟨T, k, rfl, h, hk, h2, z⟩ := h
  simp only [FX_reliability_without, wDrop, wCall, wCons, wNil, wVar, startE, List.getElem?_cons_zero, List.getElem?_cons_succ, List.set_cons_zero, List.set_cons_succ, List.map_cons, List.map_nil, List.cons_append, List.nil_append, List.length_cons, List.length_nil, List.replicate, Option.some.injEq, Slot.val.injEq, Slot.own.injEq, D.lst.injEq, exists_eq_left', exists_eq_left, exists_eq', true_and, and_true, Nat.reduceAdd, Nat.reduceSub, Nat.reduceLeDiff, Bool.false_eq_true, if_true, if_false, ↓reduceIte, Int.reduceMul, Int.reduceAdd, Int.reduceSub, Int.reduceNeg, Int.reduceLT, Int.reduceLE, Int.reduceEq, Nat.reduceMul, Nat.reduceLT, String.reduceEq, String.reduceNe, Int.reduceToNat, reduceCtorEq, Bool.not_true, Bool.not_false, Bool.true_or, Bool.or_true, Bool.false_or, Bool.or_false, Bool.true_and, Bool.and_true, Bool.false_and, Bool.and_false, Bool.not_eq_true', decide_eq_true_eq, decide_eq_false_iff_not, not_true_eq_false, not_false_eq_true, cl_check_table, h]
  unfold wLc
  simp only [wItems, wVar, wipeE, List.getElem?_cons_zero, List.getElem?_cons_succ, List.set_cons_zero, List.set_cons_succ, List.map_cons, List.map_nil, List.cons_append, List.nil_append, List.length_cons, List.length_nil, List.replicate, Option.some.injEq, Slot.val.injEq, Slot.own.injEq, D.lst.injEq, exists_eq_left', exists_eq_left, exists_eq', true_and, and_true, Nat.reduceAdd, Nat.reduceSub, Nat.reduceLeDiff, Bool.false_eq_true, if_true, if_false, ↓reduceIte, Int.reduceMul, Int.reduceAdd, Int.reduceSub, Int.reduceNeg, Int.reduceLT, Int.reduceLE, Int.reduceEq, Nat.reduceMul, Nat.reduceLT, String.reduceEq, String.reduceNe, Int.reduceToNat, reduceCtorEq, Bool.not_true, Bool.not_false, Bool.true_or, Bool.or_true, Bool.false_or, Bool.or_false, Bool.true_and, Bool.and_true, Bool.false_and, Bool.and_false, Bool.not_eq_true', decide_eq_true_eq, decide_eq_false_iff_not, not_true_eq_false, not_false_eq_true]
  unfold tabD
  simp only [List.getElem?_cons_zero, List.getElem?_cons_succ, List.set_cons_zero, List.set_cons_succ, List.map_cons, List.map_nil, List.cons_append, List.nil_append, List.length_cons, List.length_nil, List.replicate, Option.some.injEq, Slot.val.injEq, Slot.own.injEq, D.lst.injEq, exists_eq_left', exists_eq_left, exists_eq', true_and, and_true, Nat.reduceAdd, Nat.reduceSub, Nat.reduceLeDiff, Bool.false_eq_true, if_true, if_false, ↓reduceIte, Int.reduceMul, Int.reduceAdd, Int.reduceSub, Int.reduceNeg, Int.reduceLT, Int.reduceLE, Int.reduceEq, Nat.reduceMul, Nat.reduceLT, String.reduceEq, String.reduceNe, Int.reduceToNat, reduceCtorEq, Bool.not_true, Bool.not_false, Bool.true_or, Bool.or_true, Bool.false_or, Bool.or_false, Bool.true_and, Bool.and_true, Bool.false_and, Bool.and_false, Bool.not_eq_true', decide_eq_true_eq, decide_eq_false_iff_not, not_true_eq_false, not_false_eq_true]
  exact del_comp h (s2 := .non) (s3 := .non) _ ⟨_, rfl, h.del hk h2, z⟩
def evR (r : List Rat) : Rat := sumR ((List.range ((r.length + 1) / 2)).map fun i => at_ r (2 * i))
def odR (r : List Rat) : Rat := sumR ((List.range (r.length / 2)).map fun i => at_ r (2 * i + 1))
def φ_halves : Fn := fun ds Q => ∃ T : List (List Rat), ds = [tabD T] ∧ Tb T ∧ Q (.tup [.lst ((T.map evR).map fr), .lst ((T.map odR).map fr)])
theorem len_halves (ds : List D) (Q : D → Prop) (h : φ_halves ds Q) : ds.length = 1 := by obtain ⟨_, rfl, _⟩ := h; rfl
theorem cl_halves (T : List (List Rat)) (Q : D → Prop) : φ_halves [tabD T] Q = (Tb T ∧ Q (.tup [.lst ((T.map evR).map fr), .lst ((T.map odR).map fr)])) := propext ⟨fun ⟨t, e, h⟩ => by simp only [List.cons.injEq, tab_inj, and_true] at e; rw [e]; exact h, fun h => ⟨T, rfl, h⟩⟩
/-- halves(table): slots 0=table 1=evens 2=odds 3=row 4=k -/
def F_halves : FS :=
  (wSeq (wDrop (wCall φ_check_table (wCons (wVar 0) wNil)))
    (wSeq (wXPar2 1 2 (wLst wNil) (wLst wNil))
    (wSeq (wFor (.name 3) (wItems (wVar 0))
      (wSeq (wMut 1 mAppend (wCons (wCall φ_total_of (wCons (wLc (wRngTwo (wCons (wC (.int 0)) (wCons (wCall bLen (wCons (wVar 3) wNil)) (wCons (wC (.int 2)) wNil)))) (.name 4) wYes (wBin dIx (wVar 3) (wVar 4)) [4]) wNil)) wNil))
    (wMut 2 mAppend (wCons (wCall φ_total_of (wCons (wLc (wRngTwo (wCons (wC (.int 1)) (wCons (wCall bLen (wCons (wVar 3) wNil)) (wCons (wC (.int 2)) wNil)))) (.name 4) wYes (wBin dIx (wVar 3) (wVar 4)) [4]) wNil)) wNil))))
    (wSeq (wFrz 1) (wSeq (wFrz 2) (wRet (wTup (wCons (wVar 1) (wCons (wVar 2) wNil)))))))))

theorem half_sum {r : List Rat} {l : List Rat} (h1 : r.length ≤ 4) (h : ∀ x ∈ r, Rq 24 400 x) (h2 : l.length ≤ 6) (h3 : ∀ x ∈ l, x ∈ r) (Q : D → Prop) : φ_total_of [.lst (l.map fr)] Q = Q (fr (sumR l)) := by
  have s : Smm l := ⟨24, 400, ⟨by omega, by omega, by omega⟩, fun x hx => h x (h3 x hx)⟩
  rw [cl_total_of, eq_true h2, eq_true s, true_and, true_and]
def halfE (c : Int) : FE := wCall φ_total_of (wCons (wLc (wRngTwo (wCons (wC (.int c)) (wCons (wCall bLen (wCons (wVar 3) wNil)) (wCons (wC (.int 2)) wNil)))) (.name 4) wYes (wBin dIx (wVar 3) (wVar 4)) [4]) wNil)
theorem half_ev {r : List Rat} (h1 : r.length ≤ 4) (h : ∀ x ∈ r, Rq 24 400 x) {s0 s1 s2 s4 : Slot} (Q : D → Prop) (q : Q (fr (evR r))) : halfE 0 [s0, s1, s2, .val (rowD r), s4] Q := by
  unfold halfE
  simp only [wCall, wCons, wNil, wLc, wRngTwo, wC, wVar, wipeE, List.getElem?_cons_zero, List.getElem?_cons_succ, List.set_cons_zero, List.set_cons_succ, List.map_cons, List.map_nil, List.cons_append, List.nil_append, List.length_cons, List.length_nil, List.replicate, Option.some.injEq, Slot.val.injEq, Slot.own.injEq, D.lst.injEq, exists_eq_left', exists_eq_left, exists_eq', true_and, and_true, Nat.reduceAdd, Nat.reduceSub, Nat.reduceLeDiff, Bool.false_eq_true, if_true, if_false, ↓reduceIte, Int.reduceMul, Int.reduceAdd, Int.reduceSub, Int.reduceNeg, Int.reduceLT, Int.reduceLE, Int.reduceEq, Nat.reduceMul, Nat.reduceLT, String.reduceEq, String.reduceNe, Int.reduceToNat, reduceCtorEq, Bool.not_true, Bool.not_false, Bool.true_or, Bool.or_true, Bool.false_or, Bool.or_false, Bool.true_and, Bool.and_true, Bool.false_and, Bool.and_false, Bool.not_eq_true', decide_eq_true_eq, decide_eq_false_iff_not, not_true_eq_false, not_false_eq_true, len_row, nD]
  refine ⟨⟨by omega, by omega, by omega⟩, ?_⟩
  have e : (((r.length : Nat) : Int) - 0 + 1) / 2 = (((r.length + 1) / 2 : Nat) : Int) := by omega
  rw [e, Int.toNat_natCast]
  unfold rngS
  refine comp_map (k := fun (i : Nat) => D.int (0 + (i : Int) * 2)) (g := fun i => fr (at_ r (2 * i))) (List.range ((r.length + 1) / 2)) [] _ (by simp; omega) (fun i hi P pp => ?_) ?_
  · have hi := List.mem_range.mp hi
    rw [show (0 + (i : Int) * 2) = ((2 * i : Nat) : Int) by omega]
    simp only [wBind, bindT, wBin, wVar, List.getElem?_cons_zero, List.getElem?_cons_succ, List.set_cons_zero, List.set_cons_succ, List.map_cons, List.map_nil, List.cons_append, List.nil_append, List.length_cons, List.length_nil, List.replicate, Option.some.injEq, Slot.val.injEq, Slot.own.injEq, D.lst.injEq, exists_eq_left', exists_eq_left, exists_eq', true_and, and_true, Nat.reduceAdd, Nat.reduceSub, Nat.reduceLeDiff, Bool.false_eq_true, if_true, if_false, ↓reduceIte, Int.reduceMul, Int.reduceAdd, Int.reduceSub, Int.reduceNeg, Int.reduceLT, Int.reduceLE, Int.reduceEq, Nat.reduceMul, Nat.reduceLT, String.reduceEq, String.reduceNe, Int.reduceToNat, reduceCtorEq, Bool.not_true, Bool.not_false, Bool.true_or, Bool.or_true, Bool.false_or, Bool.or_false, Bool.true_and, Bool.and_true, Bool.false_and, Bool.and_false, Bool.not_eq_true', decide_eq_true_eq, decide_eq_false_iff_not, not_true_eq_false, not_false_eq_true, ix_row (show 2 * i < r.length by omega)]
    exact pp
  · have e : [] ++ (List.range ((r.length + 1) / 2)).map (fun i => fr (at_ r (2 * i))) = ((List.range ((r.length + 1) / 2)).map fun i => at_ r (2 * i)).map fr := by rw [List.map_map]; rfl
    rw [e, half_sum h1 h (by simp; omega) fun x hx => by
      obtain ⟨i, hi, rfl⟩ := List.mem_map.mp hx
      have hi := List.mem_range.mp hi
      exact at_mem (by omega)]
    exact q
theorem half_od {r : List Rat} (h1 : r.length ≤ 4) (h : ∀ x ∈ r, Rq 24 400 x) {s0 s1 s2 s4 : Slot} (Q : D → Prop) (q : Q (fr (odR r))) : halfE 1 [s0, s1, s2, .val (rowD r), s4] Q := by
  unfold halfE
  simp only [wCall, wCons, wNil, wLc, wRngTwo, wC, wVar, wipeE, List.getElem?_cons_zero, List.getElem?_cons_succ, List.set_cons_zero, List.set_cons_succ, List.map_cons, List.map_nil, List.cons_append, List.nil_append, List.length_cons, List.length_nil, List.replicate, Option.some.injEq, Slot.val.injEq, Slot.own.injEq, D.lst.injEq, exists_eq_left', exists_eq_left, exists_eq', true_and, and_true, Nat.reduceAdd, Nat.reduceSub, Nat.reduceLeDiff, Bool.false_eq_true, if_true, if_false, ↓reduceIte, Int.reduceMul, Int.reduceAdd, Int.reduceSub, Int.reduceNeg, Int.reduceLT, Int.reduceLE, Int.reduceEq, Nat.reduceMul, Nat.reduceLT, String.reduceEq, String.reduceNe, Int.reduceToNat, reduceCtorEq, Bool.not_true, Bool.not_false, Bool.true_or, Bool.or_true, Bool.false_or, Bool.or_false, Bool.true_and, Bool.and_true, Bool.false_and, Bool.and_false, Bool.not_eq_true', decide_eq_true_eq, decide_eq_false_iff_not, not_true_eq_false, not_false_eq_true, len_row, nD]
  refine ⟨⟨by omega, by omega, by omega⟩, ?_⟩
  have e : (((r.length : Nat) : Int) - 1 + 1) / 2 = ((r.length / 2 : Nat) : Int) := by omega
  rw [e, Int.toNat_natCast]
  unfold rngS
  refine comp_map (k := fun (i : Nat) => D.int (1 + (i : Int) * 2)) (g := fun i => fr (at_ r (2 * i + 1))) (List.range (r.length / 2)) [] _ (by simp; omega) (fun i hi P pp => ?_) ?_
  · have hi := List.mem_range.mp hi
    rw [show (1 + (i : Int) * 2) = ((2 * i + 1 : Nat) : Int) by omega]
    simp only [wBind, bindT, wBin, wVar, List.getElem?_cons_zero, List.getElem?_cons_succ, List.set_cons_zero, List.set_cons_succ, List.map_cons, List.map_nil, List.cons_append, List.nil_append, List.length_cons, List.length_nil, List.replicate, Option.some.injEq, Slot.val.injEq, Slot.own.injEq, D.lst.injEq, exists_eq_left', exists_eq_left, exists_eq', true_and, and_true, Nat.reduceAdd, Nat.reduceSub, Nat.reduceLeDiff, Bool.false_eq_true, if_true, if_false, ↓reduceIte, Int.reduceMul, Int.reduceAdd, Int.reduceSub, Int.reduceNeg, Int.reduceLT, Int.reduceLE, Int.reduceEq, Nat.reduceMul, Nat.reduceLT, String.reduceEq, String.reduceNe, Int.reduceToNat, reduceCtorEq, Bool.not_true, Bool.not_false, Bool.true_or, Bool.or_true, Bool.false_or, Bool.or_false, Bool.true_and, Bool.and_true, Bool.false_and, Bool.and_false, Bool.not_eq_true', decide_eq_true_eq, decide_eq_false_iff_not, not_true_eq_false, not_false_eq_true, ix_row (show 2 * i + 1 < r.length by omega)]
    exact pp
  · have e : [] ++ (List.range (r.length / 2)).map (fun i => fr (at_ r (2 * i + 1))) = ((List.range (r.length / 2)).map fun i => at_ r (2 * i + 1)).map fr := by rw [List.map_map]; rfl
    rw [e, half_sum h1 h (by simp; omega) fun x hx => by
      obtain ⟨i, hi, rfl⟩ := List.mem_map.mp hx
      have hi := List.mem_range.mp hi
      exact at_mem (by omega)]
    exact q
theorem halves_loop (A : AEnds) {s0 : Slot} : ∀ (T : List (List Rat)) (es os : List Rat) (s3 s4 : Slot), (∀ r ∈ T, r.length ≤ 4 ∧ ∀ x ∈ r, Rq 24 400 x) → es.length + T.length ≤ 100 → os.length + T.length ≤ 100 → (∀ s3 s4 : Slot, A.nx [s0, .own (.lst ((es ++ T.map evR).map fr)), .own (.lst ((os ++ T.map odR).map fr)), s3, s4]) →
    wForL (.name 3) (wSeq (wMut 1 mAppend (wCons (halfE 0) wNil)) (wMut 2 mAppend (wCons (halfE 1) wNil))) (T.map rowD) A [s0, .own (.lst (es.map fr)), .own (.lst (os.map fr)), s3, s4]
  | [], es, os, s3, s4, _, _, _, q => by
    have := q s3 s4
    rw [List.map_nil, List.map_nil, List.append_nil, List.append_nil] at this
    exact this
  | r :: T, es, os, s3, s4, h, l1, l2, q => by
    obtain ⟨h1, h2⟩ := h r List.mem_cons_self
    simp only [List.length_cons] at l1 l2
    rw [List.map_cons]
    unfold wForL
    simp only [wBind, bindT, wSeq, wMut, wCons, wNil, List.getElem?_cons_zero, List.getElem?_cons_succ, List.set_cons_zero, List.set_cons_succ, List.map_cons, List.map_nil, List.cons_append, List.nil_append, List.length_cons, List.length_nil, List.replicate, Option.some.injEq, Slot.val.injEq, Slot.own.injEq, D.lst.injEq, exists_eq_left', exists_eq_left, exists_eq', true_and, and_true, Nat.reduceAdd, Nat.reduceSub, Nat.reduceLeDiff, Bool.false_eq_true, if_true, if_false, ↓reduceIte, Int.reduceMul, Int.reduceAdd, Int.reduceSub, Int.reduceNeg, Int.reduceLT, Int.reduceLE, Int.reduceEq, Nat.reduceMul, Nat.reduceLT, String.reduceEq, String.reduceNe, Int.reduceToNat, reduceCtorEq, Bool.not_true, Bool.not_false, Bool.true_or, Bool.or_true, Bool.false_or, Bool.or_false, Bool.true_and, Bool.and_true, Bool.false_and, Bool.and_false, Bool.not_eq_true', decide_eq_true_eq, decide_eq_false_iff_not, not_true_eq_false, not_false_eq_true]
    refine half_ev h1 h2 _ ?_
    simp only [mAppend, List.getElem?_cons_zero, List.getElem?_cons_succ, List.set_cons_zero, List.set_cons_succ, List.map_cons, List.map_nil, List.cons_append, List.nil_append, List.length_cons, List.length_nil, List.replicate, Option.some.injEq, Slot.val.injEq, Slot.own.injEq, D.lst.injEq, exists_eq_left', exists_eq_left, exists_eq', true_and, and_true, Nat.reduceAdd, Nat.reduceSub, Nat.reduceLeDiff, Bool.false_eq_true, if_true, if_false, ↓reduceIte, Int.reduceMul, Int.reduceAdd, Int.reduceSub, Int.reduceNeg, Int.reduceLT, Int.reduceLE, Int.reduceEq, Nat.reduceMul, Nat.reduceLT, String.reduceEq, String.reduceNe, Int.reduceToNat, reduceCtorEq, Bool.not_true, Bool.not_false, Bool.true_or, Bool.or_true, Bool.false_or, Bool.or_false, Bool.true_and, Bool.and_true, Bool.false_and, Bool.and_false, Bool.not_eq_true', decide_eq_true_eq, decide_eq_false_iff_not, not_true_eq_false, not_false_eq_true, List.length_map]
    refine ⟨by omega, half_od h1 h2 _ ⟨by omega, ?_⟩⟩
    rw [show es.map fr ++ [fr (evR r)] = (es ++ [evR r]).map fr by simp, show os.map fr ++ [fr (odR r)] = (os ++ [odR r]).map fr by simp]
    refine halves_loop A T (es ++ [evR r]) (os ++ [odR r]) _ _ (fun x hx => h x (List.mem_cons_of_mem _ hx)) (by simp; omega) (by simp; omega) fun s3 s4 => ?_
    have := q s3 s4
    rw [List.append_assoc, List.append_assoc]
    exact this
theorem r_halves (ds : List D) (Q : D → Prop) (h : φ_halves ds Q) : F_halves (AEnds.fn Q) (startE 5 ds) := by
  obtain ⟨T, rfl, h, q⟩ := h
  have few := h.few
  have m4 := h.m4
  have key := halves_loop { nx := fun env => wSeq (wFrz 1) (wSeq (wFrz 2) (wRet (wTup (wCons (wVar 1) (wCons (wVar 2) wNil))))) (AEnds.fn Q) env, rt := (AEnds.fn Q).rt } (s0 := .val (tabD T)) T [] [] .non .non (fun r hr => ⟨by rw [h.len r hr]; omega, h.q r hr⟩) (by simp; omega) (by simp; omega) fun s3 s4 => by
    simp only [wSeq, wFrz, wRet, wTup, wCons, wNil, wVar, List.getElem?_cons_zero, List.getElem?_cons_succ, List.set_cons_zero, List.set_cons_succ, List.map_cons, List.map_nil, List.cons_append, List.nil_append, List.length_cons, List.length_nil, List.replicate, Option.some.injEq, Slot.val.injEq, Slot.own.injEq, D.lst.injEq, exists_eq_left', exists_eq_left, exists_eq', true_and, and_true, Nat.reduceAdd, Nat.reduceSub, Nat.reduceLeDiff, Bool.false_eq_true, if_true, if_false, ↓reduceIte, Int.reduceMul, Int.reduceAdd, Int.reduceSub, Int.reduceNeg, Int.reduceLT, Int.reduceLE, Int.reduceEq, Nat.reduceMul, Nat.reduceLT, String.reduceEq, String.reduceNe, Int.reduceToNat, reduceCtorEq, Bool.not_true, Bool.not_false, Bool.true_or, Bool.or_true, Bool.false_or, Bool.or_false, Bool.true_and, Bool.and_true, Bool.false_and, Bool.and_false, Bool.not_eq_true', decide_eq_true_eq, decide_eq_false_iff_not, not_true_eq_false, not_false_eq_true, AEnds.fn]
    exact q
  unfold F_halves
  simp only [wSeq, wDrop, wXPar2, wLst, wFor, wItems, wCall, wCons, wNil, wVar, startE, List.getElem?_cons_zero, List.getElem?_cons_succ, List.set_cons_zero, List.set_cons_succ, List.map_cons, List.map_nil, List.cons_append, List.nil_append, List.length_cons, List.length_nil, List.replicate, Option.some.injEq, Slot.val.injEq, Slot.own.injEq, D.lst.injEq, exists_eq_left', exists_eq_left, exists_eq', true_and, and_true, Nat.reduceAdd, Nat.reduceSub, Nat.reduceLeDiff, Bool.false_eq_true, if_true, if_false, ↓reduceIte, Int.reduceMul, Int.reduceAdd, Int.reduceSub, Int.reduceNeg, Int.reduceLT, Int.reduceLE, Int.reduceEq, Nat.reduceMul, Nat.reduceLT, String.reduceEq, String.reduceNe, Int.reduceToNat, reduceCtorEq, Bool.not_true, Bool.not_false, Bool.true_or, Bool.or_true, Bool.false_or, Bool.or_false, Bool.true_and, Bool.and_true, Bool.false_and, Bool.and_false, Bool.not_eq_true', decide_eq_true_eq, decide_eq_false_iff_not, not_true_eq_false, not_false_eq_true, cl_check_table, h]
  unfold tabD at key ⊢
  simp only [List.getElem?_cons_zero, List.getElem?_cons_succ, List.set_cons_zero, List.set_cons_succ, List.map_cons, List.map_nil, List.cons_append, List.nil_append, List.length_cons, List.length_nil, List.replicate, Option.some.injEq, Slot.val.injEq, Slot.own.injEq, D.lst.injEq, exists_eq_left', exists_eq_left, exists_eq', true_and, and_true, Nat.reduceAdd, Nat.reduceSub, Nat.reduceLeDiff, Bool.false_eq_true, if_true, if_false, ↓reduceIte, Int.reduceMul, Int.reduceAdd, Int.reduceSub, Int.reduceNeg, Int.reduceLT, Int.reduceLE, Int.reduceEq, Nat.reduceMul, Nat.reduceLT, String.reduceEq, String.reduceNe, Int.reduceToNat, reduceCtorEq, Bool.not_true, Bool.not_false, Bool.true_or, Bool.or_true, Bool.false_or, Bool.or_false, Bool.true_and, Bool.and_true, Bool.false_and, Bool.and_false, Bool.not_eq_true', decide_eq_true_eq, decide_eq_false_iff_not, not_true_eq_false, not_false_eq_true]
  exact key
def lenR (r t : Rat) : Rat := t * r / (1 + (t - 1) * r)
def φ_lengthened : Fn := fun ds Q => ∃ r t : Rat, ds = [fr r, fr t] ∧ Sz 300 r ∧ Sz 300 t ∧ 1 + (t - 1) * r ≠ 0 ∧ Q (fr (lenR r t))
theorem len_lengthened (ds : List D) (Q : D → Prop) (h : φ_lengthened ds Q) : ds.length = 2 := by obtain ⟨_, _, rfl, _⟩ := h; rfl
theorem cl_lengthened (r t : Rat) (Q : D → Prop) : φ_lengthened [fr r, fr t] Q = (Sz 300 r ∧ Sz 300 t ∧ 1 + (t - 1) * r ≠ 0 ∧ Q (fr (lenR r t))) := propext ⟨fun ⟨r', t', e, h⟩ => by simp only [List.cons.injEq, fr_inj, and_true] at e; obtain ⟨rfl, rfl⟩ := e; exact h, fun h => ⟨r, t, rfl, h⟩⟩
/-- lengthened(reliable, times_as_long): slots 0=reliable 1=times_as_long 2=top -/
def F_lengthened : FS :=
  (wSeq (wSet 2 (wCall φ_times (wCons (wVar 1) (wCons (wVar 0) wNil))))
    (wRet (wCall φ_over (wCons (wVar 2) (wCons (wCall φ_add (wCons (wC c_ONE) (wCons (wCall φ_times (wCons (wCall φ_minus (wCons (wVar 1) (wCons (wC c_ONE) wNil))) (wCons (wVar 0) wNil))) wNil))) wNil)))))

theorem r_lengthened (ds : List D) (Q : D → Prop) (h : φ_lengthened ds Q) : F_lengthened (AEnds.fn Q) (startE 3 ds) := by
  obtain ⟨r, t, rfl, hr, ht, z, q⟩ := h
  have s1 : Sz 2 (1 : Rat) := Sz.int (i := 1) (by omega) (by omega)
  have z1 := ht.mul hr
  have z2 := ht.sub s1
  have z3 := z2.mul hr
  have z4 := s1.add z3
  simp only [F_lengthened, wSeq, wSet, wRet, wCall, wCons, wNil, wVar, wC, startE, AEnds.fn, List.getElem?_cons_zero, List.getElem?_cons_succ, List.set_cons_zero, List.set_cons_succ, List.map_cons, List.map_nil, List.cons_append, List.nil_append, List.length_cons, List.length_nil, List.replicate, Option.some.injEq, Slot.val.injEq, Slot.own.injEq, D.lst.injEq, exists_eq_left', exists_eq_left, exists_eq', true_and, and_true, Nat.reduceAdd, Nat.reduceSub, Nat.reduceLeDiff, Bool.false_eq_true, if_true, if_false, ↓reduceIte, Int.reduceMul, Int.reduceAdd, Int.reduceSub, Int.reduceNeg, Int.reduceLT, Int.reduceLE, Int.reduceEq, Nat.reduceMul, Nat.reduceLT, String.reduceEq, String.reduceNe, Int.reduceToNat, reduceCtorEq, Bool.not_true, Bool.not_false, Bool.true_or, Bool.or_true, Bool.false_or, Bool.or_false, Bool.true_and, Bool.and_true, Bool.false_and, Bool.and_false, Bool.not_eq_true', decide_eq_true_eq, decide_eq_false_iff_not, not_true_eq_false, not_false_eq_true, c_ONE_eq, cl_times, cl_minus, cl_add, cl_over, hr.mono (show 300 ≤ 1900 by omega), ht.mono (show 300 ≤ 1900 by omega), s1.mono (show 2 ≤ 1900 by omega), z1.mono (show 300 + 300 ≤ 1900 by omega), z2.mono (show 300 + 2 + 1 ≤ 1900 by omega), z3.mono (show 300 + 2 + 1 + 300 ≤ 1900 by omega), z4.mono (show 2 + (300 + 2 + 1 + 300) + 1 ≤ 1900 by omega), z, ne_eq]
  exact q
def φ_l_mod : Fn := fun ds Q => ∃ a n : Int, ds = [.int a, .int n] ∧ 0 < n ∧ n.natAbs < 2 ^ 4000 ∧ a.natAbs < 2 ^ 8000 ∧ Q (.int (a % n))
theorem len_l_mod (ds : List D) (Q : D → Prop) (h : φ_l_mod ds Q) : ds.length = 2 := by obtain ⟨_, _, rfl, _⟩ := h; rfl
theorem cl_l_mod (a n : Int) (Q : D → Prop) : φ_l_mod [.int a, .int n] Q = (0 < n ∧ n.natAbs < 2 ^ 4000 ∧ a.natAbs < 2 ^ 8000 ∧ Q (.int (a % n))) := propext ⟨fun ⟨t', b', e, h⟩ => by simp only [List.cons.injEq, D.int.injEq, and_true] at e; obtain ⟨rfl, rfl⟩ := e; exact h, fun h => ⟨a, n, rfl, h⟩⟩
/-- _law_mod(a, n): slots 0=a 1=n -/
def F_l_mod : FS :=
  (wRet (wBin dSub (wVar 0) (wBin dMul (wBin dFdiv (wVar 0) (wVar 1)) (wVar 1))))

theorem r_l_mod (ds : List D) (Q : D → Prop) (h : φ_l_mod ds Q) : F_l_mod (AEnds.fn Q) (startE 2 ds) := by
  obtain ⟨a, n, rfl, h0, hn, ha, q⟩ := h
  simp only [F_l_mod, wSeq, wNext, wSet, wSetO, wAsg, wFrz, wRet, wRetN, wDrop, wIfS, wNever, wVar, wOwn, wC, wBin, wUn, wNil, wCons, wTup, wLst, wCall, dBool, wAndV, wOrV, wNotV, wIf, wChain, wTest, wAnd, wOr, wNot, wBind, bindT, setAll, wPar, wAug, wMut, wMutSet, wPut, mAppend, mExtend, wItems, wFor, wBreak, wCont, wWhile, wLc, wipeE, wSlice, wNoP, wP, startE, AEnds.law, AEnds.fn, wSetF, wFld, startI, AEnds.ini, wDict, dGet, kLook, keyD, wRng1, wRng2, wRngDown, wZip, wEnum, wRev, wPar3O, wListZip, wSliceT, wLenSet, wLm, mInsert, wSortedSet, wListRev, wChain3, List.getElem?_cons_zero, List.getElem?_cons_succ, List.set_cons_zero, List.set_cons_succ, List.map_cons, List.map_nil, List.cons_append, List.nil_append, List.length_cons, List.length_nil, List.replicate, Option.some.injEq, Slot.val.injEq, Slot.own.injEq, D.lst.injEq, exists_eq_left', exists_eq_left, exists_eq', true_and, and_true, Nat.reduceAdd, Nat.reduceSub, Nat.reduceLeDiff, Bool.false_eq_true, if_true, if_false, ↓reduceIte, Int.reduceMul, Int.reduceAdd, Int.reduceSub, Int.reduceNeg, Int.reduceLT, Int.reduceLE, Int.reduceEq, Nat.reduceMul, Nat.reduceLT, String.reduceEq, String.reduceNe, Int.reduceToNat, reduceCtorEq, Bool.not_true, Bool.not_false, Bool.true_or, Bool.or_true, Bool.false_or, Bool.or_false, Bool.true_and, Bool.and_true, Bool.false_and, Bool.and_false, Bool.not_eq_true', decide_eq_true_eq, decide_eq_false_iff_not, not_true_eq_false, not_false_eq_true, dSubB, dIn, dNotIn, flatD, List.all_cons, List.all_nil, List.any_cons, List.any_nil, dInt2, dSub, dFdiv, dMod, dLt, dLe, dGt, dGe, dPow, dNeg, dAdd, dMul, dEq, dNe, dIsN, dNotN, isNon_non, isNon_bl, isNon_int, isNon_str, isNon_tup, isNon_lst, isNon_fr, deq_non_non, deq_non_bl, deq_non_int, deq_non_str, deq_non_tup, deq_non_lst, deq_bl_non, deq_bl_bl, deq_bl_str, deq_bl_tup, deq_bl_lst, deq_int_non, deq_int_int, deq_int_str, deq_int_tup, deq_int_lst, deq_str_non, deq_str_bl, deq_str_int, deq_str_str, deq_str_tup, deq_str_lst, deq_tup_non, deq_tup_bl, deq_tup_int, deq_tup_str, deq_tup_tup, deq_tup_lst, deq_lst_non, deq_lst_bl, deq_lst_int, deq_lst_str, deq_lst_tup, deq_lst_lst, deqs_nil, deqs_cons, deqs_nil_cons, deqs_cons_nil, deq_fr_non, deq_non_fr, plain_non, plain_bl, plain_int, plain_lit, plains_nil, plains_cons, plain_lst20, plain_tup20, plain_lst19, plain_tup19, plain_tup18, plain_fr19, plain_fr18, deqs_frs, plains_frs19, decide_true, decide_false, ix0, ix1, deq_fr, plain_fr20, fr_def, fr_neg, fr_neg', okStr_lit, beq_lit, bLen, bAbs, bMax2, bMin2, bInt, bGcd, bList, bTuple, ofString_inj, cl_l_draw, cl_fraction, cl_whole, cl_add, cl_minus, cl_times, cl_over, cl_total_of, cl_need_some, cl_mean, cl_products, cl_variance, cl_check_table, cl_column, cl_totals, cl_rest, cl_var, cl_halves, cl_lengthened, cl_l_mod]
  have h1 : (a / n).natAbs < 2 ^ 8000 := Nat.lt_of_le_of_lt (Int.natAbs_ediv_le_natAbs _ _) ha
  refine ⟨cd_of h0 hn (by omega), cm_of h1 hn (by omega), ?_⟩
  rw [Int.emod_def, Int.mul_comm] at q
  exact q
def φ_l_gcd : Fn := fun ds Q => ∃ a b : Int, ds = [.int a, .int b] ∧ 0 ≤ a ∧ 0 ≤ b ∧ b < 2 ^ 100 ∧ a.natAbs < 2 ^ 8000 ∧ Q (.int (Nat.gcd a.natAbs b.natAbs))
theorem len_l_gcd (ds : List D) (Q : D → Prop) (h : φ_l_gcd ds Q) : ds.length = 2 := by obtain ⟨_, _, rfl, _⟩ := h; rfl
theorem cl_l_gcd (a b : Int) (Q : D → Prop) : φ_l_gcd [.int a, .int b] Q = (0 ≤ a ∧ 0 ≤ b ∧ b < 2 ^ 100 ∧ a.natAbs < 2 ^ 8000 ∧ Q (.int (Nat.gcd a.natAbs b.natAbs))) := propext ⟨fun ⟨t', b', e, h⟩ => by simp only [List.cons.injEq, D.int.injEq, and_true] at e; obtain ⟨rfl, rfl⟩ := e; exact h, fun h => ⟨a, b, rfl, h⟩⟩
/-- turns of Euclid's way: 2 k turns are enough for b below 2 ^ k -/
def euc : Nat → Nat → Nat → Nat × Nat
  | 0, a, b => (a, b)
  | n + 1, a, b => if b = 0 then euc n a b else euc n b (a % b)
theorem euc_zero (n a : Nat) : euc n a 0 = (a, 0) := by
  induction n with
  | zero => rfl
  | succ n ih => simp [euc, ih]
theorem euc_gcd : ∀ (k a b : Nat), b < 2 ^ k → (euc (2 * k) a b).1 = Nat.gcd a b
  | 0, a, b, h => by
    have : b = 0 := by omega
    subst this
    simp [euc]
  | k + 1, a, b, h => by
    show (euc (2 * k + 1 + 1) a b).1 = _
    by_cases hb : b = 0
    · subst hb; rw [euc_zero]; simp
    · unfold euc
      rw [if_neg hb]
      by_cases hc : a % b = 0
      · unfold euc
        rw [if_pos hc, hc, euc_zero, Nat.gcd_comm, Nat.gcd_rec, hc]
        simp
      · unfold euc
        rw [if_neg hc]
        have hlt : a % b < b := Nat.mod_lt _ (by omega)
        have h2 : b % (a % b) < 2 ^ k := by
          have h3 : 2 * (b % (a % b)) < b := by
            have h4 := Nat.mod_lt b (show 0 < a % b by omega)
            have h5 := Nat.div_add_mod b (a % b)
            have h6 : 1 ≤ b / (a % b) := (Nat.one_le_div_iff (by omega)).mpr (by omega)
            have h7 : a % b ≤ (a % b) * (b / (a % b)) := Nat.le_mul_of_pos_right _ h6
            omega
          rw [Nat.pow_succ] at h
          omega
        rw [euc_gcd k _ _ h2]
        rw [Nat.gcd_comm, ← Nat.gcd_rec, ← Nat.gcd_rec, Nat.gcd_comm]
/-- _law_gcd(a, b): slots 0=a 1=b 2=k -/
def F_l_gcd : FS :=
  (wSeq (wFor (.name 2) (wRng1 (wCons (wC (.int 200)) wNil))
      (wIfS (wTest (wBin dNe (wVar 1) (wC (.int 0))))
      (wPar [0, 1] (wCons (wVar 1) (wCons (wCall φ_l_mod (wCons (wVar 0) (wCons (wVar 1) wNil))) wNil)))
      wNext))
    (wRet (wVar 0)))

theorem gcd_loop (A : AEnds) : ∀ (ds : List D) (a b : Nat) (s : Slot), b < 2 ^ 4000 → a < 2 ^ 8000 → (∀ s', A.nx [.val (.int (euc ds.length a b).1), .val (.int (euc ds.length a b).2), s']) →
    wForL (.name 2) (wIfS (wTest (wBin dNe (wVar 1) (wC (.int 0)))) (wPar [0, 1] (wCons (wVar 1) (wCons (wCall φ_l_mod (wCons (wVar 0) (wCons (wVar 1) wNil))) wNil))) wNext) ds A [.val (.int a), .val (.int b), s]
  | [], a, b, s, _, _, k => k s
  | d :: ds, a, b, s, hb, ha, k => by
    show wBind (.name 2) d _ _
    simp only [wSeq, wNext, wSet, wSetO, wAsg, wFrz, wRet, wRetN, wDrop, wIfS, wNever, wVar, wOwn, wC, wBin, wUn, wNil, wCons, wTup, wLst, wCall, dBool, wAndV, wOrV, wNotV, wIf, wChain, wTest, wAnd, wOr, wNot, wBind, bindT, setAll, wPar, wAug, wMut, wMutSet, wPut, mAppend, mExtend, wItems, wFor, wBreak, wCont, wWhile, wLc, wipeE, wSlice, wNoP, wP, startE, AEnds.law, AEnds.fn, wSetF, wFld, startI, AEnds.ini, wDict, dGet, kLook, keyD, wRng1, wRng2, wRngDown, wZip, wEnum, wRev, wPar3O, wListZip, wSliceT, wLenSet, wLm, mInsert, wSortedSet, wListRev, wChain3, List.getElem?_cons_zero, List.getElem?_cons_succ, List.set_cons_zero, List.set_cons_succ, List.map_cons, List.map_nil, List.cons_append, List.nil_append, List.length_cons, List.length_nil, List.replicate, Option.some.injEq, Slot.val.injEq, Slot.own.injEq, D.lst.injEq, exists_eq_left', exists_eq_left, exists_eq', true_and, and_true, Nat.reduceAdd, Nat.reduceSub, Nat.reduceLeDiff, Bool.false_eq_true, if_true, if_false, ↓reduceIte, Int.reduceMul, Int.reduceAdd, Int.reduceSub, Int.reduceNeg, Int.reduceLT, Int.reduceLE, Int.reduceEq, Nat.reduceMul, Nat.reduceLT, String.reduceEq, String.reduceNe, Int.reduceToNat, reduceCtorEq, Bool.not_true, Bool.not_false, Bool.true_or, Bool.or_true, Bool.false_or, Bool.or_false, Bool.true_and, Bool.and_true, Bool.false_and, Bool.and_false, Bool.not_eq_true', decide_eq_true_eq, decide_eq_false_iff_not, not_true_eq_false, not_false_eq_true, dSubB, dIn, dNotIn, flatD, List.all_cons, List.all_nil, List.any_cons, List.any_nil, dInt2, dSub, dFdiv, dMod, dLt, dLe, dGt, dGe, dPow, dNeg, dAdd, dMul, dEq, dNe, dIsN, dNotN, isNon_non, isNon_bl, isNon_int, isNon_str, isNon_tup, isNon_lst, isNon_fr, deq_non_non, deq_non_bl, deq_non_int, deq_non_str, deq_non_tup, deq_non_lst, deq_bl_non, deq_bl_bl, deq_bl_str, deq_bl_tup, deq_bl_lst, deq_int_non, deq_int_int, deq_int_str, deq_int_tup, deq_int_lst, deq_str_non, deq_str_bl, deq_str_int, deq_str_str, deq_str_tup, deq_str_lst, deq_tup_non, deq_tup_bl, deq_tup_int, deq_tup_str, deq_tup_tup, deq_tup_lst, deq_lst_non, deq_lst_bl, deq_lst_int, deq_lst_str, deq_lst_tup, deq_lst_lst, deqs_nil, deqs_cons, deqs_nil_cons, deqs_cons_nil, deq_fr_non, deq_non_fr, plain_non, plain_bl, plain_int, plain_lit, plains_nil, plains_cons, plain_lst20, plain_tup20, plain_lst19, plain_tup19, plain_tup18, plain_fr19, plain_fr18, deqs_frs, plains_frs19, decide_true, decide_false, ix0, ix1, deq_fr, plain_fr20, fr_def, fr_neg, fr_neg', okStr_lit, beq_lit, bLen, bAbs, bMax2, bMin2, bInt, bGcd, bList, bTuple, ofString_inj, cl_l_draw, cl_fraction, cl_whole, cl_add, cl_minus, cl_times, cl_over, cl_total_of, cl_need_some, cl_mean, cl_products, cl_variance, cl_check_table, cl_column, cl_totals, cl_rest, cl_var, cl_halves, cl_lengthened, cl_l_mod, cl_l_gcd]
    split
    · rename_i c
      have c : b ≠ 0 := by simpa using c
      refine ⟨by omega, by simpa using hb, by simpa using ha, ?_⟩
      have e : ((a : Int) % (b : Int)) = ((a % b : Nat) : Int) := by simp
      rw [e]
      refine gcd_loop A ds b (a % b) _ (Nat.lt_trans (Nat.mod_lt _ (by omega)) hb) (Nat.lt_of_lt_of_le hb (pow_mono (by omega))) fun s' => ?_
      have := k s'
      rw [List.length_cons] at this
      unfold euc at this
      rw [if_neg c] at this
      exact this
    · rename_i c
      have c : b = 0 := by simpa using c
      refine gcd_loop A ds a b _ hb ha fun s' => ?_
      have := k s'
      rw [List.length_cons] at this
      unfold euc at this
      rw [if_pos c] at this
      exact this
theorem r_l_gcd (ds : List D) (Q : D → Prop) (h : φ_l_gcd ds Q) : F_l_gcd (AEnds.fn Q) (startE 3 ds) := by
  obtain ⟨a, b, rfl, a0, b0, hb, ha, q⟩ := h
  obtain ⟨a, rfl⟩ := Int.eq_ofNat_of_zero_le a0
  obtain ⟨b, rfl⟩ := Int.eq_ofNat_of_zero_le b0
  unfold F_l_gcd
  simp only [wSeq, wFor, wRng1, wC, wCons, wNil, startE, List.getElem?_cons_zero, List.getElem?_cons_succ, List.set_cons_zero, List.set_cons_succ, List.map_cons, List.map_nil, List.cons_append, List.nil_append, List.length_cons, List.length_nil, List.replicate, Option.some.injEq, Slot.val.injEq, Slot.own.injEq, D.lst.injEq, exists_eq_left', exists_eq_left, exists_eq', true_and, and_true, Nat.reduceAdd, Nat.reduceSub, Nat.reduceLeDiff, Bool.false_eq_true, if_true, if_false, ↓reduceIte, Int.reduceMul, Int.reduceAdd, Int.reduceSub, Int.reduceNeg, Int.reduceLT, Int.reduceLE, Int.reduceEq, Nat.reduceMul, Nat.reduceLT, String.reduceEq, String.reduceNe, Int.reduceToNat, reduceCtorEq, Bool.not_true, Bool.not_false, Bool.true_or, Bool.or_true, Bool.false_or, Bool.or_false, Bool.true_and, Bool.and_true, Bool.false_and, Bool.and_false, Bool.not_eq_true', decide_eq_true_eq, decide_eq_false_iff_not, not_true_eq_false, not_false_eq_true]
  refine ⟨by decide, ?_⟩
  have hb' : b < 2 ^ 100 := by omega
  refine gcd_loop _ _ a b _ (Nat.lt_of_lt_of_le hb' (pow_mono (by omega))) (by simpa using ha) fun s' => ?_
  have e : (rngD 0 200).length = 2 * 100 := by simp [rngD]
  rw [e, euc_gcd 100 a b hb']
  simp only [wSeq, wNext, wSet, wSetO, wAsg, wFrz, wRet, wRetN, wDrop, wIfS, wNever, wVar, wOwn, wC, wBin, wUn, wNil, wCons, wTup, wLst, wCall, dBool, wAndV, wOrV, wNotV, wIf, wChain, wTest, wAnd, wOr, wNot, wBind, bindT, setAll, wPar, wAug, wMut, wMutSet, wPut, mAppend, mExtend, wItems, wFor, wBreak, wCont, wWhile, wLc, wipeE, wSlice, wNoP, wP, startE, AEnds.law, AEnds.fn, wSetF, wFld, startI, AEnds.ini, wDict, dGet, kLook, keyD, wRng1, wRng2, wRngDown, wZip, wEnum, wRev, wPar3O, wListZip, wSliceT, wLenSet, wLm, mInsert, wSortedSet, wListRev, wChain3, List.getElem?_cons_zero, List.getElem?_cons_succ, List.set_cons_zero, List.set_cons_succ, List.map_cons, List.map_nil, List.cons_append, List.nil_append, List.length_cons, List.length_nil, List.replicate, Option.some.injEq, Slot.val.injEq, Slot.own.injEq, D.lst.injEq, exists_eq_left', exists_eq_left, exists_eq', true_and, and_true, Nat.reduceAdd, Nat.reduceSub, Nat.reduceLeDiff, Bool.false_eq_true, if_true, if_false, ↓reduceIte, Int.reduceMul, Int.reduceAdd, Int.reduceSub, Int.reduceNeg, Int.reduceLT, Int.reduceLE, Int.reduceEq, Nat.reduceMul, Nat.reduceLT, String.reduceEq, String.reduceNe, Int.reduceToNat, reduceCtorEq, Bool.not_true, Bool.not_false, Bool.true_or, Bool.or_true, Bool.false_or, Bool.or_false, Bool.true_and, Bool.and_true, Bool.false_and, Bool.and_false, Bool.not_eq_true', decide_eq_true_eq, decide_eq_false_iff_not, not_true_eq_false, not_false_eq_true, dSubB, dIn, dNotIn, flatD, List.all_cons, List.all_nil, List.any_cons, List.any_nil, dInt2, dSub, dFdiv, dMod, dLt, dLe, dGt, dGe, dPow, dNeg, dAdd, dMul, dEq, dNe, dIsN, dNotN, isNon_non, isNon_bl, isNon_int, isNon_str, isNon_tup, isNon_lst, isNon_fr, deq_non_non, deq_non_bl, deq_non_int, deq_non_str, deq_non_tup, deq_non_lst, deq_bl_non, deq_bl_bl, deq_bl_str, deq_bl_tup, deq_bl_lst, deq_int_non, deq_int_int, deq_int_str, deq_int_tup, deq_int_lst, deq_str_non, deq_str_bl, deq_str_int, deq_str_str, deq_str_tup, deq_str_lst, deq_tup_non, deq_tup_bl, deq_tup_int, deq_tup_str, deq_tup_tup, deq_tup_lst, deq_lst_non, deq_lst_bl, deq_lst_int, deq_lst_str, deq_lst_tup, deq_lst_lst, deqs_nil, deqs_cons, deqs_nil_cons, deqs_cons_nil, deq_fr_non, deq_non_fr, plain_non, plain_bl, plain_int, plain_lit, plains_nil, plains_cons, plain_lst20, plain_tup20, plain_lst19, plain_tup19, plain_tup18, plain_fr19, plain_fr18, deqs_frs, plains_frs19, decide_true, decide_false, ix0, ix1, deq_fr, plain_fr20, fr_def, fr_neg, fr_neg', okStr_lit, beq_lit, bLen, bAbs, bMax2, bMin2, bInt, bGcd, bList, bTuple, ofString_inj, cl_l_draw, cl_fraction, cl_whole, cl_add, cl_minus, cl_times, cl_over, cl_total_of, cl_need_some, cl_mean, cl_products, cl_variance, cl_check_table, cl_column, cl_totals, cl_rest, cl_var, cl_halves, cl_lengthened, cl_l_mod, cl_l_gcd]
  simpa using q
def φ_l_frac : Fn := fun ds Q => ∃ t b : Int, ds = [.int t, .int b] ∧ b ≠ 0 ∧ t.natAbs < 2 ^ 4000 ∧ b.natAbs < 2 ^ 100 ∧ Q (fr (Rat.divInt t b))
theorem len_l_frac (ds : List D) (Q : D → Prop) (h : φ_l_frac ds Q) : ds.length = 2 := by obtain ⟨_, _, rfl, _⟩ := h; rfl
theorem cl_l_frac (t b : Int) (Q : D → Prop) : φ_l_frac [.int t, .int b] Q = (b ≠ 0 ∧ t.natAbs < 2 ^ 4000 ∧ b.natAbs < 2 ^ 100 ∧ Q (fr (Rat.divInt t b))) := propext ⟨fun ⟨t', b', e, h⟩ => by simp only [List.cons.injEq, D.int.injEq, and_true] at e; obtain ⟨rfl, rfl⟩ := e; exact h, fun h => ⟨t, b, rfl, h⟩⟩
theorem divInt_parts {t b : Int} (hb : 0 < b) : fr (Rat.divInt t b) = D.tup [.int (t / (t.natAbs.gcd b.natAbs : Nat)), .int (b / (t.natAbs.gcd b.natAbs : Nat))] := by
  unfold fr
  rw [Rat.num_divInt, Rat.den_divInt, if_neg (by omega), Int.sign_eq_one_of_pos hb, Int.gcd_comm]
  have h3 : (b.natAbs : Int) = b := by omega
  rw [Int.natCast_ediv, h3]
  simp [Int.gcd]
/-- _law_frac(upper, lower): slots 0=upper 1=lower 2=common -/
def F_l_frac : FS :=
  (wSeq (wIfS (wTest (wBin dLt (wVar 1) (wC (.int 0))))
      (wPar [0, 1] (wCons (wBin dSub (wC (.int 0)) (wVar 0)) (wCons (wBin dSub (wC (.int 0)) (wVar 1)) wNil)))
      wNext)
    (wSeq (wSet 2 (wCall φ_l_gcd (wCons (wCall bAbs (wCons (wVar 0) wNil)) (wCons (wVar 1) wNil))))
    (wRet (wTup (wCons (wBin dFdiv (wVar 0) (wVar 2)) (wCons (wBin dFdiv (wVar 1) (wVar 2)) wNil))))))

theorem r_l_frac (ds : List D) (Q : D → Prop) (h : φ_l_frac ds Q) : F_l_frac (AEnds.fn Q) (startE 3 ds) := by
  obtain ⟨t, b, rfl, hb, h1, h2, q⟩ := h
  have key : ∀ (t b : Int), 0 < b → t.natAbs < 2 ^ 4000 → b.natAbs < 2 ^ 100 → Q (fr (Rat.divInt t b)) →
      (0 ≤ (t.natAbs : Int) ∧ 0 ≤ b ∧ b < 2 ^ 100 ∧ ((t.natAbs : Nat) : Int).natAbs < 2 ^ 8000 ∧ CD t (((t.natAbs : Nat) : Int).natAbs.gcd b.natAbs : Nat) ∧ CD b (((t.natAbs : Nat) : Int).natAbs.gcd b.natAbs : Nat) ∧
        Q (D.tup [.int (t / (((t.natAbs : Nat) : Int).natAbs.gcd b.natAbs : Nat)), .int (b / (((t.natAbs : Nat) : Int).natAbs.gcd b.natAbs : Nat))])) := by
    intro t b hb h1 h2 q
    have e : ((t.natAbs : Nat) : Int).natAbs = t.natAbs := by simp
    rw [e]
    have hg : (t.natAbs.gcd b.natAbs) < 2 ^ 100 := Nat.lt_of_le_of_lt (Nat.gcd_le_right _ (by omega)) h2
    have hg0 : 0 < t.natAbs.gcd b.natAbs := Nat.gcd_pos_of_pos_right _ (by omega)
    rw [divInt_parts hb] at q
    have h2' : b < 2 ^ 100 := by omega
    exact ⟨by omega, by omega, h2', Nat.lt_of_lt_of_le h1 (pow_mono (by omega)), cd_of (n := 100) (by omega) (by simpa using hg) (by omega), cd_of (n := 100) (by omega) (by simpa using hg) (by omega), q⟩
  simp only [F_l_frac, wSeq, wNext, wSet, wSetO, wAsg, wFrz, wRet, wRetN, wDrop, wIfS, wNever, wVar, wOwn, wC, wBin, wUn, wNil, wCons, wTup, wLst, wCall, dBool, wAndV, wOrV, wNotV, wIf, wChain, wTest, wAnd, wOr, wNot, wBind, bindT, setAll, wPar, wAug, wMut, wMutSet, wPut, mAppend, mExtend, wItems, wFor, wBreak, wCont, wWhile, wLc, wipeE, wSlice, wNoP, wP, startE, AEnds.law, AEnds.fn, wSetF, wFld, startI, AEnds.ini, wDict, dGet, kLook, keyD, wRng1, wRng2, wRngDown, wZip, wEnum, wRev, wPar3O, wListZip, wSliceT, wLenSet, wLm, mInsert, wSortedSet, wListRev, wChain3, List.getElem?_cons_zero, List.getElem?_cons_succ, List.set_cons_zero, List.set_cons_succ, List.map_cons, List.map_nil, List.cons_append, List.nil_append, List.length_cons, List.length_nil, List.replicate, Option.some.injEq, Slot.val.injEq, Slot.own.injEq, D.lst.injEq, exists_eq_left', exists_eq_left, exists_eq', true_and, and_true, Nat.reduceAdd, Nat.reduceSub, Nat.reduceLeDiff, Bool.false_eq_true, if_true, if_false, ↓reduceIte, Int.reduceMul, Int.reduceAdd, Int.reduceSub, Int.reduceNeg, Int.reduceLT, Int.reduceLE, Int.reduceEq, Nat.reduceMul, Nat.reduceLT, String.reduceEq, String.reduceNe, Int.reduceToNat, reduceCtorEq, Bool.not_true, Bool.not_false, Bool.true_or, Bool.or_true, Bool.false_or, Bool.or_false, Bool.true_and, Bool.and_true, Bool.false_and, Bool.and_false, Bool.not_eq_true', decide_eq_true_eq, decide_eq_false_iff_not, not_true_eq_false, not_false_eq_true, dSubB, dIn, dNotIn, flatD, List.all_cons, List.all_nil, List.any_cons, List.any_nil, dInt2, dSub, dFdiv, dMod, dLt, dLe, dGt, dGe, dPow, dNeg, dAdd, dMul, dEq, dNe, dIsN, dNotN, isNon_non, isNon_bl, isNon_int, isNon_str, isNon_tup, isNon_lst, isNon_fr, deq_non_non, deq_non_bl, deq_non_int, deq_non_str, deq_non_tup, deq_non_lst, deq_bl_non, deq_bl_bl, deq_bl_str, deq_bl_tup, deq_bl_lst, deq_int_non, deq_int_int, deq_int_str, deq_int_tup, deq_int_lst, deq_str_non, deq_str_bl, deq_str_int, deq_str_str, deq_str_tup, deq_str_lst, deq_tup_non, deq_tup_bl, deq_tup_int, deq_tup_str, deq_tup_tup, deq_tup_lst, deq_lst_non, deq_lst_bl, deq_lst_int, deq_lst_str, deq_lst_tup, deq_lst_lst, deqs_nil, deqs_cons, deqs_nil_cons, deqs_cons_nil, deq_fr_non, deq_non_fr, plain_non, plain_bl, plain_int, plain_lit, plains_nil, plains_cons, plain_lst20, plain_tup20, plain_lst19, plain_tup19, plain_tup18, plain_fr19, plain_fr18, deqs_frs, plains_frs19, decide_true, decide_false, ix0, ix1, deq_fr, plain_fr20, fr_def, fr_neg, fr_neg', okStr_lit, beq_lit, bLen, bAbs, bMax2, bMin2, bInt, bGcd, bList, bTuple, ofString_inj, cl_l_draw, cl_fraction, cl_whole, cl_add, cl_minus, cl_times, cl_over, cl_total_of, cl_need_some, cl_mean, cl_products, cl_variance, cl_check_table, cl_column, cl_totals, cl_rest, cl_var, cl_halves, cl_lengthened, cl_l_mod, cl_l_gcd, cl_l_frac]
  split
  · rename_i hn
    have := key (0 - t) (0 - b) (by omega) (by omega) (by omega) (by rw [Int.zero_sub, Int.zero_sub, Rat.neg_divInt_neg]; exact q)
    simpa only [List.getElem?_cons_zero, List.getElem?_cons_succ, List.set_cons_zero, List.set_cons_succ, List.map_cons, List.map_nil, List.cons_append, List.nil_append, List.length_cons, List.length_nil, List.replicate, Option.some.injEq, Slot.val.injEq, Slot.own.injEq, D.lst.injEq, exists_eq_left', exists_eq_left, exists_eq', true_and, and_true, Nat.reduceAdd, Nat.reduceSub, Nat.reduceLeDiff, Bool.false_eq_true, if_true, if_false, ↓reduceIte, Int.reduceMul, Int.reduceAdd, Int.reduceSub, Int.reduceNeg, Int.reduceLT, Int.reduceLE, Int.reduceEq, Nat.reduceMul, Nat.reduceLT, String.reduceEq, String.reduceNe, Int.reduceToNat, reduceCtorEq, Bool.not_true, Bool.not_false, Bool.true_or, Bool.or_true, Bool.false_or, Bool.or_false, Bool.true_and, Bool.and_true, Bool.false_and, Bool.and_false, Bool.not_eq_true', decide_eq_true_eq, decide_eq_false_iff_not, not_true_eq_false, not_false_eq_true] using this
  · rename_i hn
    exact key t b (by omega) h1 h2 q
def φ_l_add : Fn := fun ds Q => ∃ a b : Rat, ds = [fr a, fr b] ∧ Sz 1900 a ∧ Sz 1900 b ∧ a.den * b.den < 2 ^ 100 ∧ Q (fr (a + b))
theorem len_l_add (ds : List D) (Q : D → Prop) (h : φ_l_add ds Q) : ds.length = 2 := by obtain ⟨_, _, rfl, _⟩ := h; rfl
theorem cl_l_add (a b : Rat) (Q : D → Prop) : φ_l_add [fr a, fr b] Q = (Sz 1900 a ∧ Sz 1900 b ∧ a.den * b.den < 2 ^ 100 ∧ Q (fr (a + b))) := propext ⟨fun ⟨t', b', e, h⟩ => by simp only [List.cons.injEq, fr_inj, and_true] at e; obtain ⟨rfl, rfl⟩ := e; exact h, fun h => ⟨a, b, rfl, h⟩⟩
theorem cs_add {a b : Rat} {Q : D → Prop} (ha : Sz 40 a) (hb : Sz 40 b) : φ_l_add [fr a, fr b] Q = Q (fr (a + b)) := by
  rw [cl_l_add, eq_true (ha.mono (show 40 ≤ 1900 by omega)), eq_true (hb.mono (show 40 ≤ 1900 by omega)), eq_true (den40 ha hb), true_and, true_and, true_and]
/-- _law_add(a, b): slots 0=a 1=b -/
def F_l_add : FS :=
  (wRet (wCall φ_l_frac (wCons (wBin dAdd (wBin dMul (wBin dIx (wVar 0) (wC (.int 0))) (wBin dIx (wVar 1) (wC (.int 1)))) (wBin dMul (wBin dIx (wVar 1) (wC (.int 0))) (wBin dIx (wVar 0) (wC (.int 1))))) (wCons (wBin dMul (wBin dIx (wVar 0) (wC (.int 1))) (wBin dIx (wVar 1) (wC (.int 1)))) wNil))))

theorem r_l_add (ds : List D) (Q : D → Prop) (h : φ_l_add ds Q) : F_l_add (AEnds.fn Q) (startE 2 ds) := by
  obtain ⟨a, b, rfl, ha, hb, hd, q⟩ := h
  simp only [F_l_add, wSeq, wNext, wSet, wSetO, wAsg, wFrz, wRet, wRetN, wDrop, wIfS, wNever, wVar, wOwn, wC, wBin, wUn, wNil, wCons, wTup, wLst, wCall, dBool, wAndV, wOrV, wNotV, wIf, wChain, wTest, wAnd, wOr, wNot, wBind, bindT, setAll, wPar, wAug, wMut, wMutSet, wPut, mAppend, mExtend, wItems, wFor, wBreak, wCont, wWhile, wLc, wipeE, wSlice, wNoP, wP, startE, AEnds.law, AEnds.fn, wSetF, wFld, startI, AEnds.ini, wDict, dGet, kLook, keyD, wRng1, wRng2, wRngDown, wZip, wEnum, wRev, wPar3O, wListZip, wSliceT, wLenSet, wLm, mInsert, wSortedSet, wListRev, wChain3, List.getElem?_cons_zero, List.getElem?_cons_succ, List.set_cons_zero, List.set_cons_succ, List.map_cons, List.map_nil, List.cons_append, List.nil_append, List.length_cons, List.length_nil, List.replicate, Option.some.injEq, Slot.val.injEq, Slot.own.injEq, D.lst.injEq, exists_eq_left', exists_eq_left, exists_eq', true_and, and_true, Nat.reduceAdd, Nat.reduceSub, Nat.reduceLeDiff, Bool.false_eq_true, if_true, if_false, ↓reduceIte, Int.reduceMul, Int.reduceAdd, Int.reduceSub, Int.reduceNeg, Int.reduceLT, Int.reduceLE, Int.reduceEq, Nat.reduceMul, Nat.reduceLT, String.reduceEq, String.reduceNe, Int.reduceToNat, reduceCtorEq, Bool.not_true, Bool.not_false, Bool.true_or, Bool.or_true, Bool.false_or, Bool.or_false, Bool.true_and, Bool.and_true, Bool.false_and, Bool.and_false, Bool.not_eq_true', decide_eq_true_eq, decide_eq_false_iff_not, not_true_eq_false, not_false_eq_true, dSubB, dIn, dNotIn, flatD, List.all_cons, List.all_nil, List.any_cons, List.any_nil, dInt2, dSub, dFdiv, dMod, dLt, dLe, dGt, dGe, dPow, dNeg, dAdd, dMul, dEq, dNe, dIsN, dNotN, isNon_non, isNon_bl, isNon_int, isNon_str, isNon_tup, isNon_lst, isNon_fr, deq_non_non, deq_non_bl, deq_non_int, deq_non_str, deq_non_tup, deq_non_lst, deq_bl_non, deq_bl_bl, deq_bl_str, deq_bl_tup, deq_bl_lst, deq_int_non, deq_int_int, deq_int_str, deq_int_tup, deq_int_lst, deq_str_non, deq_str_bl, deq_str_int, deq_str_str, deq_str_tup, deq_str_lst, deq_tup_non, deq_tup_bl, deq_tup_int, deq_tup_str, deq_tup_tup, deq_tup_lst, deq_lst_non, deq_lst_bl, deq_lst_int, deq_lst_str, deq_lst_tup, deq_lst_lst, deqs_nil, deqs_cons, deqs_nil_cons, deqs_cons_nil, deq_fr_non, deq_non_fr, plain_non, plain_bl, plain_int, plain_lit, plains_nil, plains_cons, plain_lst20, plain_tup20, plain_lst19, plain_tup19, plain_tup18, plain_fr19, plain_fr18, deqs_frs, plains_frs19, decide_true, decide_false, ix0, ix1, deq_fr, plain_fr20, fr_def, fr_neg, fr_neg', okStr_lit, beq_lit, bLen, bAbs, bMax2, bMin2, bInt, bGcd, bList, bTuple, ofString_inj, cl_l_draw, cl_fraction, cl_whole, cl_add, cl_minus, cl_times, cl_over, cl_total_of, cl_need_some, cl_mean, cl_products, cl_variance, cl_check_table, cl_column, cl_totals, cl_rest, cl_var, cl_halves, cl_lengthened, cl_l_mod, cl_l_gcd, cl_l_frac, cl_l_add]
  have n1 := natAbs_mul_lt ha.num (den_lt hb)
  have n2 := natAbs_mul_lt hb.num (den_lt ha)
  have n4 := natAbs_mul_lt ha.num hb.num
  have pp : (2 : Nat) ^ (1900 + 1900) + 2 ^ (1900 + 1900) ≤ 2 ^ 4000 := Nat.le_trans (by rw [← Nat.two_mul, ← Nat.pow_succ']; exact Nat.le_refl _) (pow_mono (show 1900 + 1900 + 1 ≤ 4000 by omega))
  have d0 : (a.den : Int) * b.den ≠ 0 := Int.mul_ne_zero (by have := a.den_nz; omega) (by have := b.den_nz; omega)
  have d1 : ((a.den : Int) * b.den).natAbs < 2 ^ 100 := by rw [Int.natAbs_mul]; simpa using hd
  rw [add_eq_divInt] at q
  rw [Int.natCast_mul] at q
  exact ⟨cm_of (n := 1900) (m := 1900) ha.num (den_lt hb) (by omega), cm_of (n := 1900) (m := 1900) hb.num (den_lt ha) (by omega), cm_of (n := 1900) (m := 1900) (den_lt ha) (den_lt hb) (by omega), d0, by omega, d1, q⟩
def φ_l_mul : Fn := fun ds Q => ∃ a b : Rat, ds = [fr a, fr b] ∧ Sz 1900 a ∧ Sz 1900 b ∧ a.den * b.den < 2 ^ 100 ∧ Q (fr (a * b))
theorem len_l_mul (ds : List D) (Q : D → Prop) (h : φ_l_mul ds Q) : ds.length = 2 := by obtain ⟨_, _, rfl, _⟩ := h; rfl
theorem cl_l_mul (a b : Rat) (Q : D → Prop) : φ_l_mul [fr a, fr b] Q = (Sz 1900 a ∧ Sz 1900 b ∧ a.den * b.den < 2 ^ 100 ∧ Q (fr (a * b))) := propext ⟨fun ⟨t', b', e, h⟩ => by simp only [List.cons.injEq, fr_inj, and_true] at e; obtain ⟨rfl, rfl⟩ := e; exact h, fun h => ⟨a, b, rfl, h⟩⟩
theorem cs_mul {a b : Rat} {Q : D → Prop} (ha : Sz 40 a) (hb : Sz 40 b) : φ_l_mul [fr a, fr b] Q = Q (fr (a * b)) := by
  rw [cl_l_mul, eq_true (ha.mono (show 40 ≤ 1900 by omega)), eq_true (hb.mono (show 40 ≤ 1900 by omega)), eq_true (den40 ha hb), true_and, true_and, true_and]
/-- _law_mul(a, b): slots 0=a 1=b -/
def F_l_mul : FS :=
  (wRet (wCall φ_l_frac (wCons (wBin dMul (wBin dIx (wVar 0) (wC (.int 0))) (wBin dIx (wVar 1) (wC (.int 0)))) (wCons (wBin dMul (wBin dIx (wVar 0) (wC (.int 1))) (wBin dIx (wVar 1) (wC (.int 1)))) wNil))))

theorem r_l_mul (ds : List D) (Q : D → Prop) (h : φ_l_mul ds Q) : F_l_mul (AEnds.fn Q) (startE 2 ds) := by
  obtain ⟨a, b, rfl, ha, hb, hd, q⟩ := h
  simp only [F_l_mul, wSeq, wNext, wSet, wSetO, wAsg, wFrz, wRet, wRetN, wDrop, wIfS, wNever, wVar, wOwn, wC, wBin, wUn, wNil, wCons, wTup, wLst, wCall, dBool, wAndV, wOrV, wNotV, wIf, wChain, wTest, wAnd, wOr, wNot, wBind, bindT, setAll, wPar, wAug, wMut, wMutSet, wPut, mAppend, mExtend, wItems, wFor, wBreak, wCont, wWhile, wLc, wipeE, wSlice, wNoP, wP, startE, AEnds.law, AEnds.fn, wSetF, wFld, startI, AEnds.ini, wDict, dGet, kLook, keyD, wRng1, wRng2, wRngDown, wZip, wEnum, wRev, wPar3O, wListZip, wSliceT, wLenSet, wLm, mInsert, wSortedSet, wListRev, wChain3, List.getElem?_cons_zero, List.getElem?_cons_succ, List.set_cons_zero, List.set_cons_succ, List.map_cons, List.map_nil, List.cons_append, List.nil_append, List.length_cons, List.length_nil, List.replicate, Option.some.injEq, Slot.val.injEq, Slot.own.injEq, D.lst.injEq, exists_eq_left', exists_eq_left, exists_eq', true_and, and_true, Nat.reduceAdd, Nat.reduceSub, Nat.reduceLeDiff, Bool.false_eq_true, if_true, if_false, ↓reduceIte, Int.reduceMul, Int.reduceAdd, Int.reduceSub, Int.reduceNeg, Int.reduceLT, Int.reduceLE, Int.reduceEq, Nat.reduceMul, Nat.reduceLT, String.reduceEq, String.reduceNe, Int.reduceToNat, reduceCtorEq, Bool.not_true, Bool.not_false, Bool.true_or, Bool.or_true, Bool.false_or, Bool.or_false, Bool.true_and, Bool.and_true, Bool.false_and, Bool.and_false, Bool.not_eq_true', decide_eq_true_eq, decide_eq_false_iff_not, not_true_eq_false, not_false_eq_true, dSubB, dIn, dNotIn, flatD, List.all_cons, List.all_nil, List.any_cons, List.any_nil, dInt2, dSub, dFdiv, dMod, dLt, dLe, dGt, dGe, dPow, dNeg, dAdd, dMul, dEq, dNe, dIsN, dNotN, isNon_non, isNon_bl, isNon_int, isNon_str, isNon_tup, isNon_lst, isNon_fr, deq_non_non, deq_non_bl, deq_non_int, deq_non_str, deq_non_tup, deq_non_lst, deq_bl_non, deq_bl_bl, deq_bl_str, deq_bl_tup, deq_bl_lst, deq_int_non, deq_int_int, deq_int_str, deq_int_tup, deq_int_lst, deq_str_non, deq_str_bl, deq_str_int, deq_str_str, deq_str_tup, deq_str_lst, deq_tup_non, deq_tup_bl, deq_tup_int, deq_tup_str, deq_tup_tup, deq_tup_lst, deq_lst_non, deq_lst_bl, deq_lst_int, deq_lst_str, deq_lst_tup, deq_lst_lst, deqs_nil, deqs_cons, deqs_nil_cons, deqs_cons_nil, deq_fr_non, deq_non_fr, plain_non, plain_bl, plain_int, plain_lit, plains_nil, plains_cons, plain_lst20, plain_tup20, plain_lst19, plain_tup19, plain_tup18, plain_fr19, plain_fr18, deqs_frs, plains_frs19, decide_true, decide_false, ix0, ix1, deq_fr, plain_fr20, fr_def, fr_neg, fr_neg', okStr_lit, beq_lit, bLen, bAbs, bMax2, bMin2, bInt, bGcd, bList, bTuple, ofString_inj, cl_l_draw, cl_fraction, cl_whole, cl_add, cl_minus, cl_times, cl_over, cl_total_of, cl_need_some, cl_mean, cl_products, cl_variance, cl_check_table, cl_column, cl_totals, cl_rest, cl_var, cl_halves, cl_lengthened, cl_l_mod, cl_l_gcd, cl_l_frac, cl_l_add, cl_l_mul]
  have n1 := natAbs_mul_lt ha.num (den_lt hb)
  have n2 := natAbs_mul_lt hb.num (den_lt ha)
  have n4 := natAbs_mul_lt ha.num hb.num
  have pp : (2 : Nat) ^ (1900 + 1900) + 2 ^ (1900 + 1900) ≤ 2 ^ 4000 := Nat.le_trans (by rw [← Nat.two_mul, ← Nat.pow_succ']; exact Nat.le_refl _) (pow_mono (show 1900 + 1900 + 1 ≤ 4000 by omega))
  have d0 : (a.den : Int) * b.den ≠ 0 := Int.mul_ne_zero (by have := a.den_nz; omega) (by have := b.den_nz; omega)
  have d1 : ((a.den : Int) * b.den).natAbs < 2 ^ 100 := by rw [Int.natAbs_mul]; simpa using hd
  rw [mul_eq_divInt] at q
  rw [Int.natCast_mul] at q
  exact ⟨cm_of (n := 1900) (m := 1900) ha.num hb.num (by omega), cm_of (n := 1900) (m := 1900) (den_lt ha) (den_lt hb) (by omega), d0, by omega, d1, q⟩
def φ_l_lt : Fn := fun ds Q => ∃ a b : Rat, ds = [fr a, fr b] ∧ Sz 1900 a ∧ Sz 1900 b ∧ Q (.bl (decide (a < b)))
theorem len_l_lt (ds : List D) (Q : D → Prop) (h : φ_l_lt ds Q) : ds.length = 2 := by obtain ⟨_, _, rfl, _⟩ := h; rfl
theorem cl_l_lt (a b : Rat) (Q : D → Prop) : φ_l_lt [fr a, fr b] Q = (Sz 1900 a ∧ Sz 1900 b ∧ Q (.bl (decide (a < b)))) := propext ⟨fun ⟨t', b', e, h⟩ => by simp only [List.cons.injEq, fr_inj, and_true] at e; obtain ⟨rfl, rfl⟩ := e; exact h, fun h => ⟨a, b, rfl, h⟩⟩
theorem cs_lt {a b : Rat} {Q : D → Prop} (ha : Sz 40 a) (hb : Sz 40 b) : φ_l_lt [fr a, fr b] Q = Q (.bl (decide (a < b))) := by
  rw [cl_l_lt, eq_true (ha.mono (show 40 ≤ 1900 by omega)), eq_true (hb.mono (show 40 ≤ 1900 by omega)), true_and, true_and]
/-- _law_lt(a, b): slots 0=a 1=b -/
def F_l_lt : FS :=
  (wRet (wBin dLt (wBin dMul (wBin dIx (wVar 0) (wC (.int 0))) (wBin dIx (wVar 1) (wC (.int 1)))) (wBin dMul (wBin dIx (wVar 1) (wC (.int 0))) (wBin dIx (wVar 0) (wC (.int 1))))))

theorem r_l_lt (ds : List D) (Q : D → Prop) (h : φ_l_lt ds Q) : F_l_lt (AEnds.fn Q) (startE 2 ds) := by
  obtain ⟨a, b, rfl, ha, hb, q⟩ := h
  simp only [F_l_lt, wSeq, wNext, wSet, wSetO, wAsg, wFrz, wRet, wRetN, wDrop, wIfS, wNever, wVar, wOwn, wC, wBin, wUn, wNil, wCons, wTup, wLst, wCall, dBool, wAndV, wOrV, wNotV, wIf, wChain, wTest, wAnd, wOr, wNot, wBind, bindT, setAll, wPar, wAug, wMut, wMutSet, wPut, mAppend, mExtend, wItems, wFor, wBreak, wCont, wWhile, wLc, wipeE, wSlice, wNoP, wP, startE, AEnds.law, AEnds.fn, wSetF, wFld, startI, AEnds.ini, wDict, dGet, kLook, keyD, wRng1, wRng2, wRngDown, wZip, wEnum, wRev, wPar3O, wListZip, wSliceT, wLenSet, wLm, mInsert, wSortedSet, wListRev, wChain3, List.getElem?_cons_zero, List.getElem?_cons_succ, List.set_cons_zero, List.set_cons_succ, List.map_cons, List.map_nil, List.cons_append, List.nil_append, List.length_cons, List.length_nil, List.replicate, Option.some.injEq, Slot.val.injEq, Slot.own.injEq, D.lst.injEq, exists_eq_left', exists_eq_left, exists_eq', true_and, and_true, Nat.reduceAdd, Nat.reduceSub, Nat.reduceLeDiff, Bool.false_eq_true, if_true, if_false, ↓reduceIte, Int.reduceMul, Int.reduceAdd, Int.reduceSub, Int.reduceNeg, Int.reduceLT, Int.reduceLE, Int.reduceEq, Nat.reduceMul, Nat.reduceLT, String.reduceEq, String.reduceNe, Int.reduceToNat, reduceCtorEq, Bool.not_true, Bool.not_false, Bool.true_or, Bool.or_true, Bool.false_or, Bool.or_false, Bool.true_and, Bool.and_true, Bool.false_and, Bool.and_false, Bool.not_eq_true', decide_eq_true_eq, decide_eq_false_iff_not, not_true_eq_false, not_false_eq_true, dSubB, dIn, dNotIn, flatD, List.all_cons, List.all_nil, List.any_cons, List.any_nil, dInt2, dSub, dFdiv, dMod, dLt, dLe, dGt, dGe, dPow, dNeg, dAdd, dMul, dEq, dNe, dIsN, dNotN, isNon_non, isNon_bl, isNon_int, isNon_str, isNon_tup, isNon_lst, isNon_fr, deq_non_non, deq_non_bl, deq_non_int, deq_non_str, deq_non_tup, deq_non_lst, deq_bl_non, deq_bl_bl, deq_bl_str, deq_bl_tup, deq_bl_lst, deq_int_non, deq_int_int, deq_int_str, deq_int_tup, deq_int_lst, deq_str_non, deq_str_bl, deq_str_int, deq_str_str, deq_str_tup, deq_str_lst, deq_tup_non, deq_tup_bl, deq_tup_int, deq_tup_str, deq_tup_tup, deq_tup_lst, deq_lst_non, deq_lst_bl, deq_lst_int, deq_lst_str, deq_lst_tup, deq_lst_lst, deqs_nil, deqs_cons, deqs_nil_cons, deqs_cons_nil, deq_fr_non, deq_non_fr, plain_non, plain_bl, plain_int, plain_lit, plains_nil, plains_cons, plain_lst20, plain_tup20, plain_lst19, plain_tup19, plain_tup18, plain_fr19, plain_fr18, deqs_frs, plains_frs19, decide_true, decide_false, ix0, ix1, deq_fr, plain_fr20, fr_def, fr_neg, fr_neg', okStr_lit, beq_lit, bLen, bAbs, bMax2, bMin2, bInt, bGcd, bList, bTuple, ofString_inj]
  rw [decide_eq_decide.mpr (Rat.lt_iff a b)] at q
  exact ⟨cm_of (n := 1900) (m := 1900) ha.num (den_lt hb) (by omega), cm_of (n := 1900) (m := 1900) hb.num (den_lt ha) (by omega), q⟩
/-- a drawn fraction: t / lower, t from 0 to most by lower -/
def φ_l_fraction : Fn := fun ds Q => ∃ most : Int, ds = [.tape, .int most] ∧ 0 ≤ most ∧ most ≤ 1000 ∧ ∀ t b : Int, 1 ≤ b → b ≤ 4 → 0 ≤ t → t ≤ most * b → Q (fr (Rat.divInt t b))
theorem len_l_fraction (ds : List D) (Q : D → Prop) (h : φ_l_fraction ds Q) : ds.length = 2 := by obtain ⟨_, rfl, _⟩ := h; rfl
theorem cl_l_fraction (most : Int) (Q : D → Prop) : φ_l_fraction [.tape, .int most] Q = (0 ≤ most ∧ most ≤ 1000 ∧ ∀ t b : Int, 1 ≤ b → b ≤ 4 → 0 ≤ t → t ≤ most * b → Q (fr (Rat.divInt t b))) := propext ⟨fun ⟨t', e, h⟩ => by simp only [List.cons.injEq, D.int.injEq, and_true, true_and] at e; subst e; exact h, fun h => ⟨most, rfl, h⟩⟩
/-- _law_fraction(tape, most): slots 0=tape 1=most 2=lower -/
def F_l_fraction : FS :=
  (wSeq (wSet 2 (wBin dAdd (wC (.int 1)) (wCall φ_l_draw (wCons (wVar 0) (wCons (wC (.int 4)) wNil)))))
    (wRet (wCall φ_l_frac (wCons (wCall φ_l_draw (wCons (wVar 0) (wCons (wBin dAdd (wBin dMul (wVar 1) (wVar 2)) (wC (.int 1))) wNil))) (wCons (wVar 2) wNil)))))

theorem r_l_fraction (ds : List D) (Q : D → Prop) (h : φ_l_fraction ds Q) : F_l_fraction (AEnds.fn Q) (startE 3 ds) := by
  obtain ⟨most, rfl, h0, h1, q⟩ := h
  simp only [F_l_fraction, wSeq, wNext, wSet, wSetO, wAsg, wFrz, wRet, wRetN, wDrop, wIfS, wNever, wVar, wOwn, wC, wBin, wUn, wNil, wCons, wTup, wLst, wCall, dBool, wAndV, wOrV, wNotV, wIf, wChain, wTest, wAnd, wOr, wNot, wBind, bindT, setAll, wPar, wAug, wMut, wMutSet, wPut, mAppend, mExtend, wItems, wFor, wBreak, wCont, wWhile, wLc, wipeE, wSlice, wNoP, wP, startE, AEnds.law, AEnds.fn, wSetF, wFld, startI, AEnds.ini, wDict, dGet, kLook, keyD, wRng1, wRng2, wRngDown, wZip, wEnum, wRev, wPar3O, wListZip, wSliceT, wLenSet, wLm, mInsert, wSortedSet, wListRev, wChain3, List.getElem?_cons_zero, List.getElem?_cons_succ, List.set_cons_zero, List.set_cons_succ, List.map_cons, List.map_nil, List.cons_append, List.nil_append, List.length_cons, List.length_nil, List.replicate, Option.some.injEq, Slot.val.injEq, Slot.own.injEq, D.lst.injEq, exists_eq_left', exists_eq_left, exists_eq', true_and, and_true, Nat.reduceAdd, Nat.reduceSub, Nat.reduceLeDiff, Bool.false_eq_true, if_true, if_false, ↓reduceIte, Int.reduceMul, Int.reduceAdd, Int.reduceSub, Int.reduceNeg, Int.reduceLT, Int.reduceLE, Int.reduceEq, Nat.reduceMul, Nat.reduceLT, String.reduceEq, String.reduceNe, Int.reduceToNat, reduceCtorEq, Bool.not_true, Bool.not_false, Bool.true_or, Bool.or_true, Bool.false_or, Bool.or_false, Bool.true_and, Bool.and_true, Bool.false_and, Bool.and_false, Bool.not_eq_true', decide_eq_true_eq, decide_eq_false_iff_not, not_true_eq_false, not_false_eq_true, dSubB, dIn, dNotIn, flatD, List.all_cons, List.all_nil, List.any_cons, List.any_nil, dInt2, dSub, dFdiv, dMod, dLt, dLe, dGt, dGe, dPow, dNeg, dAdd, dMul, dEq, dNe, dIsN, dNotN, isNon_non, isNon_bl, isNon_int, isNon_str, isNon_tup, isNon_lst, isNon_fr, deq_non_non, deq_non_bl, deq_non_int, deq_non_str, deq_non_tup, deq_non_lst, deq_bl_non, deq_bl_bl, deq_bl_str, deq_bl_tup, deq_bl_lst, deq_int_non, deq_int_int, deq_int_str, deq_int_tup, deq_int_lst, deq_str_non, deq_str_bl, deq_str_int, deq_str_str, deq_str_tup, deq_str_lst, deq_tup_non, deq_tup_bl, deq_tup_int, deq_tup_str, deq_tup_tup, deq_tup_lst, deq_lst_non, deq_lst_bl, deq_lst_int, deq_lst_str, deq_lst_tup, deq_lst_lst, deqs_nil, deqs_cons, deqs_nil_cons, deqs_cons_nil, deq_fr_non, deq_non_fr, plain_non, plain_bl, plain_int, plain_lit, plains_nil, plains_cons, plain_lst20, plain_tup20, plain_lst19, plain_tup19, plain_tup18, plain_fr19, plain_fr18, deqs_frs, plains_frs19, decide_true, decide_false, ix0, ix1, deq_fr, plain_fr20, fr_def, fr_neg, fr_neg', okStr_lit, beq_lit, bLen, bAbs, bMax2, bMin2, bInt, bGcd, bList, bTuple, ofString_inj, cl_l_draw, cl_fraction, cl_whole, cl_add, cl_minus, cl_times, cl_over, cl_total_of, cl_need_some, cl_mean, cl_products, cl_variance, cl_check_table, cl_column, cl_totals, cl_rest, cl_var, cl_halves, cl_lengthened, cl_l_mod, cl_l_gcd, cl_l_frac, cl_l_add, cl_l_mul, cl_l_lt, cl_l_fraction, φ_l_draw]
  intro d d0 d1
  have hm : most * (1 + d) ≤ 1000 * 4 := Int.mul_le_mul h1 (by omega) (by omega) (by omega)
  have hm0 : 0 ≤ most * (1 + d) := Int.mul_nonneg h0 (by omega)
  refine ⟨.inl ⟨by omega, by omega⟩, ⟨by omega, by omega⟩, fun t t0 t1 => ?_⟩
  have p : (2 : Nat) ^ 20 ≤ 2 ^ 4000 := pow_mono (by omega)
  exact ⟨by omega, by omega, by omega, q t (1 + d) (by omega) (by omega) t0 (by omega)⟩
def φ_l_stirred : Fn := fun ds Q => ∃ xs : List D, ds = [.tape, .lst xs] ∧ xs.length ≤ 1000 ∧ ∀ ys : List D, ys.Perm xs → Q (.lst ys)
theorem len_l_stirred (ds : List D) (Q : D → Prop) (h : φ_l_stirred ds Q) : ds.length = 2 := by obtain ⟨_, rfl, _⟩ := h; rfl
theorem cl_l_stirred (xs : List D) (Q : D → Prop) : φ_l_stirred [.tape, .lst xs] Q = (xs.length ≤ 1000 ∧ ∀ ys : List D, ys.Perm xs → Q (.lst ys)) := propext ⟨fun ⟨t, e, h⟩ => by simp only [List.cons.injEq, D.lst.injEq, true_and, and_true] at e; rw [e]; exact h, fun h => ⟨xs, rfl, h⟩⟩
theorem perm_typed {α : Type} {f : α → D} : ∀ {ys zs : List D}, ys.Perm zs → ∀ xs : List α, zs = xs.map f → ∃ us : List α, us.Perm xs ∧ ys = us.map f := by
  intro ys zs h
  induction h with
  | nil => intro xs e; exact ⟨[], by rw [List.eq_nil_of_map_eq_nil e.symm], rfl⟩
  | cons x h ih =>
    intro xs e
    cases xs with
    | nil => cases e
    | cons a xs =>
      rw [List.map_cons, List.cons.injEq] at e
      obtain ⟨us, p, e2⟩ := ih xs e.2
      exact ⟨a :: us, p.cons a, by rw [List.map_cons, e.1, e2]⟩
  | swap x y l =>
    intro xs e
    cases xs with
    | nil => cases e
    | cons a xs =>
      cases xs with
      | nil => cases e
      | cons b xs =>
        rw [List.map_cons, List.map_cons, List.cons.injEq, List.cons.injEq] at e
        exact ⟨b :: a :: xs, .swap _ _ _, by rw [List.map_cons, List.map_cons, ← e.1, ← e.2.1, ← e.2.2]⟩
  | trans h1 h2 i1 i2 =>
    intro xs e
    obtain ⟨us, p, e2⟩ := i2 xs e
    obtain ⟨vs, p2, e3⟩ := i1 us e2
    exact ⟨vs, p2.trans p, e3⟩
/-- _law_stirred(tape, rows): slots 0=tape 1=rows 2=found 3=waiting -/
def F_l_stirred : FS :=
  (wSeq (wXPar2 2 3 (wLst wNil) (wCall bList (wCons (wVar 1) wNil)))
    (wSeq (wWhile (wTest (wBin dGt (wCall bLen (wCons (wOwn 3) wNil)) (wC (.int 0))))
      (wAppPop 2 3 (wCons (wCall φ_l_draw (wCons (wVar 0) (wCons (wCall bLen (wCons (wOwn 3) wNil)) wNil))) wNil)))
    (wSeq (wFrz 2) (wRet (wVar 2)))))

theorem perm_erase (W : List D) : ∀ (j : Nat) (x : D), W[j]? = some x → (x :: W.eraseIdx j).Perm W := by
  induction W with
  | nil => intro j x h; cases h
  | cons a W ih =>
    intro j x h
    cases j with
    | zero => simp only [List.getElem?_cons_zero, Option.some.injEq] at h; subst h; exact .refl _
    | succ j =>
      rw [List.getElem?_cons_succ] at h
      rw [List.eraseIdx_cons_succ]
      exact (List.Perm.swap a x _).trans ((ih j x h).cons a)
theorem stir_loop (A : AEnds) (xs : List D) {s1 : Slot} : ∀ (n : Nat) (F W : List D), W.length = n → n ≤ 1000 → F.length + n ≤ 1000 → (F ++ W).Perm xs → (∀ ys : List D, ys.Perm xs → A.nx [.val .tape, s1, .own (.lst ys), .own (.lst [])]) →
    wWhileN (wTest (wBin dGt (wCall bLen (wCons (wOwn 3) wNil)) (wC (.int 0)))) (wAppPop 2 3 (wCons (wCall φ_l_draw (wCons (wVar 0) (wCons (wCall bLen (wCons (wOwn 3) wNil)) wNil))) wNil)) (n + 1) A [.val .tape, s1, .own (.lst F), .own (.lst W)]
  | 0, F, W, e, _, _, p, q => by
    have : W = [] := List.length_eq_zero_iff.mp e
    subst this
    unfold wWhileN
    simp only [wTest, wBin, wCall, wCons, wNil, wOwn, wC, List.getElem?_cons_zero, List.getElem?_cons_succ, List.set_cons_zero, List.set_cons_succ, List.map_cons, List.map_nil, List.cons_append, List.nil_append, List.length_cons, List.length_nil, List.replicate, Option.some.injEq, Slot.val.injEq, Slot.own.injEq, D.lst.injEq, exists_eq_left', exists_eq_left, exists_eq', true_and, and_true, Nat.reduceAdd, Nat.reduceSub, Nat.reduceLeDiff, Bool.false_eq_true, if_true, if_false, ↓reduceIte, Int.reduceMul, Int.reduceAdd, Int.reduceSub, Int.reduceNeg, Int.reduceLT, Int.reduceLE, Int.reduceEq, Nat.reduceMul, Nat.reduceLT, String.reduceEq, String.reduceNe, Int.reduceToNat, reduceCtorEq, Bool.not_true, Bool.not_false, Bool.true_or, Bool.or_true, Bool.false_or, Bool.or_false, Bool.true_and, Bool.and_true, Bool.false_and, Bool.and_false, Bool.not_eq_true', decide_eq_true_eq, decide_eq_false_iff_not, not_true_eq_false, not_false_eq_true, bLen, dGt, dInt2, List.length_nil]
    simp only [List.getElem?_cons_zero, List.getElem?_cons_succ, List.set_cons_zero, List.set_cons_succ, List.map_cons, List.map_nil, List.cons_append, List.nil_append, List.length_cons, List.length_nil, List.replicate, Option.some.injEq, Slot.val.injEq, Slot.own.injEq, D.lst.injEq, exists_eq_left', exists_eq_left, exists_eq', true_and, and_true, Nat.reduceAdd, Nat.reduceSub, Nat.reduceLeDiff, Bool.false_eq_true, if_true, if_false, ↓reduceIte, Int.reduceMul, Int.reduceAdd, Int.reduceSub, Int.reduceNeg, Int.reduceLT, Int.reduceLE, Int.reduceEq, Nat.reduceMul, Nat.reduceLT, String.reduceEq, String.reduceNe, Int.reduceToNat, reduceCtorEq, Bool.not_true, Bool.not_false, Bool.true_or, Bool.or_true, Bool.false_or, Bool.or_false, Bool.true_and, Bool.and_true, Bool.false_and, Bool.and_false, Bool.not_eq_true', decide_eq_true_eq, decide_eq_false_iff_not, not_true_eq_false, not_false_eq_true, dBool]
    rw [List.append_nil] at p
    exact q _ p
  | n + 1, F, W, e, h1, h2, p, q => by
    unfold wWhileN
    have pos : ((W.length : Nat) : Int) > 0 := by omega
    have p2 : (0 : Int) < (W.length : Nat) := pos
    generalize hR : wWhileN (wTest (wBin dGt (wCall bLen (wCons (wOwn 3) wNil)) (wC (.int 0)))) (wAppPop 2 3 (wCons (wCall φ_l_draw (wCons (wVar 0) (wCons (wCall bLen (wCons (wOwn 3) wNil)) wNil))) wNil)) (n + 1) = R
    simp only [wTest, wBin, wCall, wCons, wNil, wOwn, wVar, wC, List.getElem?_cons_zero, List.getElem?_cons_succ, List.set_cons_zero, List.set_cons_succ, List.map_cons, List.map_nil, List.cons_append, List.nil_append, List.length_cons, List.length_nil, List.replicate, Option.some.injEq, Slot.val.injEq, Slot.own.injEq, D.lst.injEq, exists_eq_left', exists_eq_left, exists_eq', true_and, and_true, Nat.reduceAdd, Nat.reduceSub, Nat.reduceLeDiff, Bool.false_eq_true, if_true, if_false, ↓reduceIte, Int.reduceMul, Int.reduceAdd, Int.reduceSub, Int.reduceNeg, Int.reduceLT, Int.reduceLE, Int.reduceEq, Nat.reduceMul, Nat.reduceLT, String.reduceEq, String.reduceNe, Int.reduceToNat, reduceCtorEq, Bool.not_true, Bool.not_false, Bool.true_or, Bool.or_true, Bool.false_or, Bool.or_false, Bool.true_and, Bool.and_true, Bool.false_and, Bool.and_false, Bool.not_eq_true', decide_eq_true_eq, decide_eq_false_iff_not, not_true_eq_false, not_false_eq_true, bLen, dGt, dInt2, p2, decide_true, dBool, wAppPop, cl_l_draw]
    refine ⟨by omega, fun d d0 d1 => ?_⟩
    obtain ⟨j, rfl⟩ := Int.eq_ofNat_of_zero_le d0
    have hj : j < W.length := by omega
    simp only [mPopAt]
    refine ⟨⟨by omega, by omega⟩, j, W[j], ?_, List.getElem?_eq_getElem hj, ?_⟩
    · unfold ixD
      rw [if_pos (by omega), if_pos (by omega), Int.toNat_natCast]
    · simp only [mAppend, List.getElem?_cons_zero, List.getElem?_cons_succ, List.set_cons_zero, List.set_cons_succ, List.map_cons, List.map_nil, List.cons_append, List.nil_append, List.length_cons, List.length_nil, List.replicate, Option.some.injEq, Slot.val.injEq, Slot.own.injEq, D.lst.injEq, exists_eq_left', exists_eq_left, exists_eq', true_and, and_true, Nat.reduceAdd, Nat.reduceSub, Nat.reduceLeDiff, Bool.false_eq_true, if_true, if_false, ↓reduceIte, Int.reduceMul, Int.reduceAdd, Int.reduceSub, Int.reduceNeg, Int.reduceLT, Int.reduceLE, Int.reduceEq, Nat.reduceMul, Nat.reduceLT, String.reduceEq, String.reduceNe, Int.reduceToNat, reduceCtorEq, Bool.not_true, Bool.not_false, Bool.true_or, Bool.or_true, Bool.false_or, Bool.or_false, Bool.true_and, Bool.and_true, Bool.false_and, Bool.and_false, Bool.not_eq_true', decide_eq_true_eq, decide_eq_false_iff_not, not_true_eq_false, not_false_eq_true]
      refine ⟨by omega, ?_⟩
      rw [← hR]
      refine stir_loop A xs n (F ++ [W[j]]) (W.eraseIdx j) (by rw [List.length_eraseIdx_of_lt hj]; omega) (by omega) (by simp; omega) ?_ q
      refine List.Perm.trans ?_ p
      rw [List.append_assoc]
      exact (perm_erase W j _ (List.getElem?_eq_getElem hj)).append_left F
theorem r_l_stirred (ds : List D) (Q : D → Prop) (h : φ_l_stirred ds Q) : F_l_stirred (AEnds.fn Q) (startE 4 ds) := by
  obtain ⟨xs, rfl, h, q⟩ := h
  unfold F_l_stirred
  simp only [wSeq, wXPar2, wLst, wCall, wCons, wNil, wVar, wWhile, startE, List.getElem?_cons_zero, List.getElem?_cons_succ, List.set_cons_zero, List.set_cons_succ, List.map_cons, List.map_nil, List.cons_append, List.nil_append, List.length_cons, List.length_nil, List.replicate, Option.some.injEq, Slot.val.injEq, Slot.own.injEq, D.lst.injEq, exists_eq_left', exists_eq_left, exists_eq', true_and, and_true, Nat.reduceAdd, Nat.reduceSub, Nat.reduceLeDiff, Bool.false_eq_true, if_true, if_false, ↓reduceIte, Int.reduceMul, Int.reduceAdd, Int.reduceSub, Int.reduceNeg, Int.reduceLT, Int.reduceLE, Int.reduceEq, Nat.reduceMul, Nat.reduceLT, String.reduceEq, String.reduceNe, Int.reduceToNat, reduceCtorEq, Bool.not_true, Bool.not_false, Bool.true_or, Bool.or_true, Bool.false_or, Bool.or_false, Bool.true_and, Bool.and_true, Bool.false_and, Bool.and_false, Bool.not_eq_true', decide_eq_true_eq, decide_eq_false_iff_not, not_true_eq_false, not_false_eq_true, bList]
  refine ⟨xs.length + 1, stir_loop _ xs (s1 := .val (.lst xs)) xs.length [] xs rfl h (by simpa using h) (.refl _) fun ys p => ?_⟩
  simp only [wSeq, wFrz, wRet, wVar, List.getElem?_cons_zero, List.getElem?_cons_succ, List.set_cons_zero, List.set_cons_succ, List.map_cons, List.map_nil, List.cons_append, List.nil_append, List.length_cons, List.length_nil, List.replicate, Option.some.injEq, Slot.val.injEq, Slot.own.injEq, D.lst.injEq, exists_eq_left', exists_eq_left, exists_eq', true_and, and_true, Nat.reduceAdd, Nat.reduceSub, Nat.reduceLeDiff, Bool.false_eq_true, if_true, if_false, ↓reduceIte, Int.reduceMul, Int.reduceAdd, Int.reduceSub, Int.reduceNeg, Int.reduceLT, Int.reduceLE, Int.reduceEq, Nat.reduceMul, Nat.reduceLT, String.reduceEq, String.reduceNe, Int.reduceToNat, reduceCtorEq, Bool.not_true, Bool.not_false, Bool.true_or, Bool.or_true, Bool.false_or, Bool.or_false, Bool.true_and, Bool.and_true, Bool.false_and, Bool.and_false, Bool.not_eq_true', decide_eq_true_eq, decide_eq_false_iff_not, not_true_eq_false, not_false_eq_true, AEnds.fn]
  exact q ys p
def φ_l_reliable : Fn := orNone ψ_reliability φ_reliability
theorem len_l_reliable (ds : List D) (Q : D → Prop) (h : orNone ψ_reliability φ_reliability ds Q) : ds.length = 1 := by
  rcases h with ⟨h, _⟩ | h
  · exact lenx_reliability ds h
  · exact len_reliability ds Q h
/-- _law_reliable(marks): slots 0=marks -/
def F_l_reliable : FS :=
  (wRet (wCall φ_reliability (wCons (wVar 0) wNil)))
def FX_l_reliable : FX :=
  (fun env => (wCons (wVar 0) wNil) env ψ_reliability)

theorem one_of {ds : List D} (h : ds.length = 1) : ∃ x, ds = [x] := by
  match ds, h with
  | [x], _ => exact ⟨x, rfl⟩
theorem r_l_reliable (ds : List D) (Q : D → Prop) (h : φ_reliability ds Q) : F_l_reliable (AEnds.fn Q) (startE 1 ds) := by
  obtain ⟨x, rfl⟩ := one_of (len_reliability ds Q h)
  simp only [F_l_reliable, wRet, wCall, wCons, wNil, wVar, startE, AEnds.fn, List.getElem?_cons_zero, List.getElem?_cons_succ, List.set_cons_zero, List.set_cons_succ, List.map_cons, List.map_nil, List.cons_append, List.nil_append, List.length_cons, List.length_nil, List.replicate, Option.some.injEq, Slot.val.injEq, Slot.own.injEq, D.lst.injEq, exists_eq_left', exists_eq_left, exists_eq', true_and, and_true, Nat.reduceAdd, Nat.reduceSub, Nat.reduceLeDiff, Bool.false_eq_true, if_true, if_false, ↓reduceIte, Int.reduceMul, Int.reduceAdd, Int.reduceSub, Int.reduceNeg, Int.reduceLT, Int.reduceLE, Int.reduceEq, Nat.reduceMul, Nat.reduceLT, String.reduceEq, String.reduceNe, Int.reduceToNat, reduceCtorEq, Bool.not_true, Bool.not_false, Bool.true_or, Bool.or_true, Bool.false_or, Bool.or_false, Bool.true_and, Bool.and_true, Bool.false_and, Bool.and_false, Bool.not_eq_true', decide_eq_true_eq, decide_eq_false_iff_not, not_true_eq_false, not_false_eq_true]
  exact h
theorem rx_l_reliable (ds : List D) (h : ψ_reliability ds) : FX_l_reliable (startE 1 ds) := by
  obtain ⟨x, rfl⟩ := one_of (lenx_reliability ds h)
  simp only [FX_l_reliable, wCons, wNil, wVar, startE, List.getElem?_cons_zero, List.getElem?_cons_succ, List.set_cons_zero, List.set_cons_succ, List.map_cons, List.map_nil, List.cons_append, List.nil_append, List.length_cons, List.length_nil, List.replicate, Option.some.injEq, Slot.val.injEq, Slot.own.injEq, D.lst.injEq, exists_eq_left', exists_eq_left, exists_eq', true_and, and_true, Nat.reduceAdd, Nat.reduceSub, Nat.reduceLeDiff, Bool.false_eq_true, if_true, if_false, ↓reduceIte, Int.reduceMul, Int.reduceAdd, Int.reduceSub, Int.reduceNeg, Int.reduceLT, Int.reduceLE, Int.reduceEq, Nat.reduceMul, Nat.reduceLT, String.reduceEq, String.reduceNe, Int.reduceToNat, reduceCtorEq, Bool.not_true, Bool.not_false, Bool.true_or, Bool.or_true, Bool.false_or, Bool.or_false, Bool.true_and, Bool.and_true, Bool.false_and, Bool.and_false, Bool.not_eq_true', decide_eq_true_eq, decide_eq_false_iff_not, not_true_eq_false, not_false_eq_true]
  exact h
theorem two_of {ds : List D} (h : ds.length = 2) : ∃ x y, ds = [x, y] := by
  match ds, h with
  | [x, y], _ => exact ⟨x, y, rfl⟩
def φ_l_without : Fn := orNone ψ_reliability_without φ_reliability_without
theorem len_l_without (ds : List D) (Q : D → Prop) (h : orNone ψ_reliability_without φ_reliability_without ds Q) : ds.length = 2 := by
  rcases h with ⟨h, _⟩ | h
  · exact lenx_reliability_without ds h
  · exact len_reliability_without ds Q h
/-- _law_without(marks, place): slots 0=marks 1=place -/
def F_l_without : FS :=
  (wRet (wCall φ_reliability_without (wCons (wVar 0) (wCons (wVar 1) wNil))))
def FX_l_without : FX :=
  (fun env => (wCons (wVar 0) (wCons (wVar 1) wNil)) env ψ_reliability_without)

theorem r_l_without (ds : List D) (Q : D → Prop) (h : φ_reliability_without ds Q) : F_l_without (AEnds.fn Q) (startE 2 ds) := by
  obtain ⟨x, y, rfl⟩ := two_of (len_reliability_without ds Q h)
  simp only [F_l_without, wRet, wCall, wCons, wNil, wVar, startE, AEnds.fn, List.getElem?_cons_zero, List.getElem?_cons_succ, List.set_cons_zero, List.set_cons_succ, List.map_cons, List.map_nil, List.cons_append, List.nil_append, List.length_cons, List.length_nil, List.replicate, Option.some.injEq, Slot.val.injEq, Slot.own.injEq, D.lst.injEq, exists_eq_left', exists_eq_left, exists_eq', true_and, and_true, Nat.reduceAdd, Nat.reduceSub, Nat.reduceLeDiff, Bool.false_eq_true, if_true, if_false, ↓reduceIte, Int.reduceMul, Int.reduceAdd, Int.reduceSub, Int.reduceNeg, Int.reduceLT, Int.reduceLE, Int.reduceEq, Nat.reduceMul, Nat.reduceLT, String.reduceEq, String.reduceNe, Int.reduceToNat, reduceCtorEq, Bool.not_true, Bool.not_false, Bool.true_or, Bool.or_true, Bool.false_or, Bool.or_false, Bool.true_and, Bool.and_true, Bool.false_and, Bool.and_false, Bool.not_eq_true', decide_eq_true_eq, decide_eq_false_iff_not, not_true_eq_false, not_false_eq_true]
  exact h
theorem rx_l_without (ds : List D) (h : ψ_reliability_without ds) : FX_l_without (startE 2 ds) := by
  obtain ⟨x, y, rfl⟩ := two_of (lenx_reliability_without ds h)
  simp only [FX_l_without, wCons, wNil, wVar, startE, List.getElem?_cons_zero, List.getElem?_cons_succ, List.set_cons_zero, List.set_cons_succ, List.map_cons, List.map_nil, List.cons_append, List.nil_append, List.length_cons, List.length_nil, List.replicate, Option.some.injEq, Slot.val.injEq, Slot.own.injEq, D.lst.injEq, exists_eq_left', exists_eq_left, exists_eq', true_and, and_true, Nat.reduceAdd, Nat.reduceSub, Nat.reduceLeDiff, Bool.false_eq_true, if_true, if_false, ↓reduceIte, Int.reduceMul, Int.reduceAdd, Int.reduceSub, Int.reduceNeg, Int.reduceLT, Int.reduceLE, Int.reduceEq, Nat.reduceMul, Nat.reduceLT, String.reduceEq, String.reduceNe, Int.reduceToNat, reduceCtorEq, Bool.not_true, Bool.not_false, Bool.true_or, Bool.or_true, Bool.false_or, Bool.or_false, Bool.true_and, Bool.and_true, Bool.false_and, Bool.and_false, Bool.not_eq_true', decide_eq_true_eq, decide_eq_false_iff_not, not_true_eq_false, not_false_eq_true]
  exact h
def φ_l_sharp : Fn := orNone ψ_discrimination φ_discrimination
theorem len_l_sharp (ds : List D) (Q : D → Prop) (h : orNone ψ_discrimination φ_discrimination ds Q) : ds.length = 2 := by
  rcases h with ⟨h, _⟩ | h
  · exact lenx_discrimination ds h
  · exact len_discrimination ds Q h
/-- _law_sharp(marks, place): slots 0=marks 1=place -/
def F_l_sharp : FS :=
  (wRet (wCall φ_discrimination (wCons (wVar 0) (wCons (wVar 1) wNil))))
def FX_l_sharp : FX :=
  (fun env => (wCons (wVar 0) (wCons (wVar 1) wNil)) env ψ_discrimination)

theorem r_l_sharp (ds : List D) (Q : D → Prop) (h : φ_discrimination ds Q) : F_l_sharp (AEnds.fn Q) (startE 2 ds) := by
  obtain ⟨x, y, rfl⟩ := two_of (len_discrimination ds Q h)
  simp only [F_l_sharp, wRet, wCall, wCons, wNil, wVar, startE, AEnds.fn, List.getElem?_cons_zero, List.getElem?_cons_succ, List.set_cons_zero, List.set_cons_succ, List.map_cons, List.map_nil, List.cons_append, List.nil_append, List.length_cons, List.length_nil, List.replicate, Option.some.injEq, Slot.val.injEq, Slot.own.injEq, D.lst.injEq, exists_eq_left', exists_eq_left, exists_eq', true_and, and_true, Nat.reduceAdd, Nat.reduceSub, Nat.reduceLeDiff, Bool.false_eq_true, if_true, if_false, ↓reduceIte, Int.reduceMul, Int.reduceAdd, Int.reduceSub, Int.reduceNeg, Int.reduceLT, Int.reduceLE, Int.reduceEq, Nat.reduceMul, Nat.reduceLT, String.reduceEq, String.reduceNe, Int.reduceToNat, reduceCtorEq, Bool.not_true, Bool.not_false, Bool.true_or, Bool.or_true, Bool.false_or, Bool.or_false, Bool.true_and, Bool.and_true, Bool.false_and, Bool.and_false, Bool.not_eq_true', decide_eq_true_eq, decide_eq_false_iff_not, not_true_eq_false, not_false_eq_true]
  exact h
theorem rx_l_sharp (ds : List D) (h : ψ_discrimination ds) : FX_l_sharp (startE 2 ds) := by
  obtain ⟨x, y, rfl⟩ := two_of (lenx_discrimination ds h)
  simp only [FX_l_sharp, wCons, wNil, wVar, startE, List.getElem?_cons_zero, List.getElem?_cons_succ, List.set_cons_zero, List.set_cons_succ, List.map_cons, List.map_nil, List.cons_append, List.nil_append, List.length_cons, List.length_nil, List.replicate, Option.some.injEq, Slot.val.injEq, Slot.own.injEq, D.lst.injEq, exists_eq_left', exists_eq_left, exists_eq', true_and, and_true, Nat.reduceAdd, Nat.reduceSub, Nat.reduceLeDiff, Bool.false_eq_true, if_true, if_false, ↓reduceIte, Int.reduceMul, Int.reduceAdd, Int.reduceSub, Int.reduceNeg, Int.reduceLT, Int.reduceLE, Int.reduceEq, Nat.reduceMul, Nat.reduceLT, String.reduceEq, String.reduceNe, Int.reduceToNat, reduceCtorEq, Bool.not_true, Bool.not_false, Bool.true_or, Bool.or_true, Bool.false_or, Bool.or_false, Bool.true_and, Bool.and_true, Bool.false_and, Bool.and_false, Bool.not_eq_true', decide_eq_true_eq, decide_eq_false_iff_not, not_true_eq_false, not_false_eq_true]
  exact h
/-! law: slots 0=script 1=tape 2=many 3=marks 4=order 5=scripts 6=place 7=more 8=by 9=other 10=row 11=moved 12=k 13=left 14=right 15=told 16=first 17=second 18=n -/
def S_law_0 : FS :=
  (wSet 2 (wBin dAdd (wC (.int 2)) (wCall φ_l_draw (wCons (wVar 1) (wCons (wC (.int 3)) wNil)))))
def S_law_1 : FS :=
  (wSet 3 (wLc (wRng1 (wCons (wBin dAdd (wC (.int 2)) (wCall φ_l_draw (wCons (wVar 1) (wCons (wC (.int 5)) wNil)))) wNil)) (.name 18) wYes (wLc (wRng1 (wCons (wVar 2) wNil)) (.name 12) wYes (wCall φ_l_fraction (wCons (wVar 1) (wCons (wC (.int 4)) wNil))) [12]) [18]))
def S_law_2 : FS :=
  (wPar [4, 5] (wCons (wCall φ_l_stirred (wCons (wVar 1) (wCons (wListRng (wVar 2)) wNil))) (wCons (wCall φ_l_stirred (wCons (wVar 1) (wCons (wVar 3) wNil))) wNil)))
def S_law_3 : FS :=
  (wAsg (.tup [6, 7, 8]) (wTup (wCons (wCall φ_l_draw (wCons (wVar 1) (wCons (wVar 2) wNil))) (wCons (wCall φ_l_fraction (wCons (wVar 1) (wCons (wC (.int 3)) wNil))) (wCons (wCall φ_l_frac (wCons (wBin dAdd (wC (.int 1)) (wCall φ_l_draw (wCons (wVar 1) (wCons (wC (.int 4)) wNil)))) (wCons (wC (.int 2)) wNil))) wNil)))))
def S_law_4 : FS :=
  (wSetO 9 (wLst wNil))
def S_law_5_0 : FS :=
  (wSet 11 (wLc (wRng1 (wCons (wVar 2) wNil)) (.name 12) wYes (wIf (wTest (wBin dEq (wVar 12) (wVar 6))) (wCall φ_l_add (wCons (wBin dIx (wVar 10) (wVar 12)) (wCons (wVar 7) wNil))) (wBin dIx (wVar 10) (wVar 12))) [12]))
def S_law_5_1 : FS :=
  (wMut 9 mAppend (wCons (wLc (wItems (wVar 4)) (.name 12) wYes (wCall φ_l_mul (wCons (wBin dIx (wVar 11) (wVar 12)) (wCons (wVar 8) wNil))) [12]) wNil))
def R_law_5_1 : FS := S_law_5_1
def R_law_5_0 : FS := wSeq S_law_5_0 R_law_5_1
def B_law_5 : FS := R_law_5_0
def S_law_5 : FS :=
  (wFor (.name 10) (wItems (wVar 5)) B_law_5)
def S_law_7 : FS :=
  (wIfS (wTest (wBin dNe (wCall φ_l_reliable (wCons (wVar 9) wNil)) (wCall φ_l_reliable (wCons (wVar 3) wNil))))
      (wRet (wC (.bl false)))
      wNext)
def S_law_8_0 : FS :=
  (wIfS (wOr (wTest (wBin dNe (wCall φ_l_without (wCons (wVar 9) (wCons (wLm bIndex (wVar 4) (wCons (wVar 12) wNil)) wNil))) (wCall φ_l_without (wCons (wVar 3) (wCons (wVar 12) wNil))))) (wTest (wBin dNe (wCall φ_l_sharp (wCons (wVar 9) (wCons (wLm bIndex (wVar 4) (wCons (wVar 12) wNil)) wNil))) (wCall φ_l_sharp (wCons (wVar 3) (wCons (wVar 12) wNil))))))
      (wRet (wC (.bl false)))
      wNext)
def R_law_8_0 : FS := S_law_8_0
def B_law_8 : FS := R_law_8_0
def S_law_8 : FS :=
  (wFor (.name 12) (wRng1 (wCons (wVar 2) wNil)) B_law_8)
def S_law_9 : FS :=
  (wAsg (.tup [13, 14]) (wCall φ_halves (wCons (wVar 3) wNil)))
def S_law_10 : FS :=
  (wIfS (wOr (wTest (wBin dNe (wLc (wRng1 (wCons (wCall bLen (wCons (wVar 3) wNil)) wNil)) (.name 18) wYes (wCall φ_l_add (wCons (wBin dIx (wVar 13) (wVar 18)) (wCons (wBin dIx (wVar 14) (wVar 18)) wNil))) [18]) (wCall φ_totals (wCons (wVar 3) wNil)))) (wTest (wBin dNe (wCall φ_column (wCons (wVar 9) (wCons (wLm bIndex (wVar 4) (wCons (wVar 6) wNil)) wNil))) (wLc (wItems (wVar 5)) (.name 10) wYes (wCall φ_l_mul (wCons (wCall φ_l_add (wCons (wBin dIx (wVar 10) (wVar 6)) (wCons (wVar 7) wNil))) (wCons (wVar 8) wNil))) [10]))))
      (wRet (wC (.bl false)))
      wNext)
def S_law_11 : FS :=
  (wSet 15 (wCall φ_l_reliable (wCons (wVar 3) wNil)))
def S_law_12 : FS :=
  (wIfS (wOr (wTest (wBin dIsN (wVar 15) (wC .non))) (wTest (wCall φ_l_lt (wCons (wVar 15) (wCons (wTup (wCons (wC (.int 0)) (wCons (wC (.int 1)) wNil))) wNil)))))
      (wRet (wC (.bl true)))
      wNext)
def S_law_13 : FS :=
  (wPar [16, 17] (wCons (wTup (wCons (wBin dAdd (wC (.int 1)) (wCall φ_l_draw (wCons (wVar 1) (wCons (wC (.int 3)) wNil)))) (wCons (wC (.int 1)) wNil))) (wCons (wCall φ_l_frac (wCons (wBin dAdd (wC (.int 1)) (wCall φ_l_draw (wCons (wVar 1) (wCons (wC (.int 3)) wNil)))) (wCons (wC (.int 2)) wNil))) wNil)))
def S_law_14 : FS :=
  (wRet (wBin dEq (wCall φ_lengthened (wCons (wCall φ_lengthened (wCons (wVar 15) (wCons (wVar 16) wNil))) (wCons (wVar 17) wNil))) (wCall φ_lengthened (wCons (wVar 15) (wCons (wCall φ_l_mul (wCons (wVar 16) (wCons (wVar 17) wNil))) wNil)))))
def R_law_14 : FS := S_law_14
def R_law_13 : FS := wSeq S_law_13 R_law_14
def R_law_12 : FS := wSeq S_law_12 R_law_13
def R_law_11 : FS := wSeq S_law_11 R_law_12
def R_law_10 : FS := wSeq S_law_10 R_law_11
def R_law_9 : FS := wSeq S_law_9 R_law_10
def R_law_8 : FS := wSeq S_law_8 R_law_9
def R_law_7 : FS := wSeq S_law_7 R_law_8
def R_law_6 : FS := (wSeq (wFrz 9) R_law_7)
def R_law_5 : FS := wSeq S_law_5 R_law_6
def R_law_4 : FS := wSeq S_law_4 R_law_5
def R_law_3 : FS := wSeq S_law_3 R_law_4
def R_law_2 : FS := wSeq S_law_2 R_law_3
def R_law_1 : FS := wSeq S_law_1 R_law_2
def R_law_0 : FS := wSeq S_law_0 R_law_1
def F_law : FS := R_law_0

end Pl
end

section
set_option linter.all false
set_option maxRecDepth 100000
set_option autoImplicit false
set_option maxHeartbeats 1000000
namespace Pl
open PySem
/-! ### sums over rows -/
theorem sumR_perm {l m : List Rat} (h : l.Perm m) : sumR l = sumR m := by
  induction h with
  | nil => rfl
  | cons x _ ih => rw [sumR_cons, sumR_cons, ih]
  | swap x y l => rw [sumR_cons, sumR_cons, sumR_cons, sumR_cons]; grind
  | trans _ _ a b => rw [a, b]
section
variable {α : Type}
def Sg (T : List α) (f : α → Rat) : Rat := sumR (T.map f)
theorem Sg_nil (f : α → Rat) : Sg [] f = 0 := rfl
theorem Sg_cons (a : α) (T : List α) (f : α → Rat) : Sg (a :: T) f = f a + Sg T f := sumR_cons _ _
theorem Sg_perm {T U : List α} (h : T.Perm U) (f : α → Rat) : Sg T f = Sg U f := sumR_perm (h.map f)
theorem Sg_congr {T : List α} {f g : α → Rat} (h : ∀ r ∈ T, f r = g r) : Sg T f = Sg T g := by
  unfold Sg
  rw [List.map_congr_left h]
theorem len_succ (n : Nat) : (((n + 1 : Nat) : Int) : Rat) = ((n : Nat) : Int) + 1 := by rw [Int.natCast_add, Rat.intCast_add]; rfl
theorem Sg_lin (T : List α) (f g : α → Rat) (a b c : Rat) : Sg T (fun r => a * f r + b * g r + c) = a * Sg T f + b * Sg T g + c * ((T.length : Nat) : Int) := by
  induction T with
  | nil => rw [Sg_nil, Sg_nil, Sg_nil]; simp; grind
  | cons x T ih =>
    rw [Sg_cons, Sg_cons, Sg_cons, ih, List.length_cons, len_succ]
    generalize Sg T f = u
    generalize Sg T g = v
    generalize (((T.length : Nat) : Int) : Rat) = w
    grind
theorem Sg_zero (T : List α) : Sg T (fun _ => 0) = 0 := by
  induction T with
  | nil => rfl
  | cons x T ih => rw [Sg_cons, ih]; grind
theorem Sg_add (T : List α) (f g : α → Rat) : Sg T (fun r => f r + g r) = Sg T f + Sg T g := by
  have := Sg_lin T f g 1 1 0
  rw [Sg_congr (g := fun r => 1 * f r + 1 * g r + 0) fun r _ => by grind, this]
  grind
/-- sums may change places -/
theorem Sg_swap {β : Type} (T : List α) (L : List β) (f : α → β → Rat) : Sg T (fun a => Sg L fun b => f a b) = Sg L fun b => Sg T fun a => f a b := by
  induction T with
  | nil =>
    rw [Sg_nil, Sg_congr (g := fun _ => 0) fun b _ => Sg_nil _]
    exact (Sg_zero L).symm
  | cons a T ih =>
    rw [Sg_cons, ih, ← Sg_add]
    exact Sg_congr fun b _ => (Sg_cons a T fun a => f a b).symm
theorem Sg_le {T : List α} {f g : α → Rat} (h : ∀ r ∈ T, f r ≤ g r) : Sg T f ≤ Sg T g := by
  induction T with
  | nil => exact Rat.le_refl
  | cons a T ih =>
    rw [Sg_cons, Sg_cons]
    have h1 := h a List.mem_cons_self
    have h2 := ih fun r hr => h r (List.mem_cons_of_mem _ hr)
    grind
theorem lenT_ne {T : List α} (h : T ≠ []) : (((T.length : Nat) : Int) : Rat) ≠ 0 := by
  have := lenR_ne (l := T.map fun _ => (0 : Rat)) (by simpa using h)
  rwa [List.length_map] at this
def Pr (T : List α) (f g : α → Rat) : Rat := Sg T (fun r => f r * g r) - Sg T f * Sg T g / ((T.length : Nat) : Int)
theorem pr_Pr {T : List α} (h : T ≠ []) (f g : α → Rat) : prR (T.map f) (T.map g) = Pr T f g := by
  rw [prR_eq (by simpa using h) (by simp), List.zip_map', List.map_map, List.length_map]
  rfl
theorem Pr_perm {T U : List α} (h : T.Perm U) (f g : α → Rat) : Pr T f g = Pr U f g := by
  unfold Pr
  rw [Sg_perm h, Sg_perm h, Sg_perm h, h.length_eq]
theorem Pr_mov {T : List α} (h : T ≠ []) {f f' g g' : α → Rat} {b c d : Rat} (hf : ∀ r ∈ T, f' r = b * (f r + c)) (hg : ∀ r ∈ T, g' r = b * (g r + d)) : Pr T f' g' = b * b * Pr T f g := by
  have n := lenT_ne h
  unfold Pr
  have e1 : Sg T f' = b * Sg T f + b * c * ((T.length : Nat) : Int) := by
    rw [Sg_congr (g := fun r => b * f r + 0 * f r + b * c) fun r hr => by rw [hf r hr]; grind, Sg_lin]; grind
  have e2 : Sg T g' = b * Sg T g + b * d * ((T.length : Nat) : Int) := by
    rw [Sg_congr (g := fun r => b * g r + 0 * g r + b * d) fun r hr => by rw [hg r hr]; grind, Sg_lin]; grind
  have e3 : Sg T (fun r => f' r * g' r) = b * b * Sg T (fun r => f r * g r) + b * b * d * Sg T f + b * b * c * Sg T g + b * b * c * d * ((T.length : Nat) : Int) := by
    have x1 := Sg_lin T (fun r => f r * g r) f (b * b) (b * b * d) 0
    have x2 := Sg_lin T (fun r => b * b * (f r * g r) + b * b * d * f r + 0) g 1 (b * b * c) (b * b * c * d)
    rw [x1] at x2
    rw [Sg_congr (g := fun r => 1 * (b * b * (f r * g r) + b * b * d * f r + 0) + b * b * c * g r + b * b * c * d) fun r hr => by rw [hf r hr, hg r hr]; grind, x2]
    generalize Sg T f = u
    generalize Sg T g = v
    generalize Sg T (fun r => f r * g r) = z
    generalize (((T.length : Nat) : Int) : Rat) = w
    grind
  rw [e1, e2, e3]
  generalize Sg T f = u
  generalize Sg T g = v
  generalize Sg T (fun r => f r * g r) = z
  generalize (((T.length : Nat) : Int) : Rat) = w at *
  grind
end
/-! ### places -/
theorem row_at (r : List Rat) : r = (List.range r.length).map (at_ r) := by
  refine List.ext_getElem (by simp) fun i h1 h2 => ?_
  simp [at_, h1]
theorem sum_at (r : List Rat) : sumR r = Sg (List.range r.length) (at_ r) := by
  show _ = sumR ((List.range r.length).map (at_ r))
  rw [← row_at]
theorem at_map {f : Nat → Rat} {o : List Nat} {j k : Nat} (h : o[j]? = some k) : at_ (o.map f) j = f k := by
  show (o.map f).getD j 0 = _
  rw [List.getD_eq_getElem?_getD, List.getElem?_map, h]
  rfl
theorem range_del {m j : Nat} (h : j < m) : (List.range m).Perm (j :: (List.range m).filter fun k => k != j) := by
  have e : (List.range m).erase j = (List.range m).filter fun k => k != j := List.Nodup.erase_eq_filter List.nodup_range j
  rw [← e]
  exact List.perm_cons_erase (List.mem_range.mpr h)
theorem Sg_del {m j : Nat} (h : j < m) (f : Nat → Rat) : Sg ((List.range m).filter fun k => k != j) f = Sg (List.range m) f - f j := by
  rw [Sg_perm (range_del h), Sg_cons]
  grind
theorem Sg_one {m p : Nat} (c : Rat) : Sg (List.range m) (fun k => if k = p then c else 0) = if p < m then c else 0 := by
  induction m with
  | zero => simp [Sg, sumR]
  | succ m ih =>
    unfold Sg at ih ⊢
    rw [List.range_succ, List.map_append, sumR_app, ih]
    show _ + sumR [if m = p then c else 0] = _
    rw [sumR_cons]
    show _ + (_ + 0) = _
    by_cases h : p < m
    · rw [if_pos h, if_neg (by omega), if_pos (by omega)]; grind
    · by_cases e : m = p
      · rw [if_neg h, if_pos e, if_pos (by omega)]; grind
      · rw [if_neg h, if_neg e, if_neg (by omega)]; grind
/-! ### the table with a question left out -/
section
variable {T : List (List Rat)} {q j : Nat}
theorem del_tot (h : Tb T) (hq : q < wid T) : totL (delT T q) = rstL T q := by
  unfold totL delT rstL
  rw [List.map_map]
  refine List.map_congr_left fun r hr => ?_
  show Sg ((List.range r.length).filter fun k => k != q) (at_ r) = _
  rw [Sg_del (by rw [h.len r hr]; exact hq), ← sum_at]
theorem del_col (h : Tb T) (hq : q < wid T) {i k : Nat} (e : ((List.range (wid T)).filter fun k => k != q)[i]? = some k) : colL (delT T q) i = colL T k := by
  unfold colL delT
  rw [List.map_map]
  refine List.map_congr_left fun r hr => ?_
  show at_ (((List.range r.length).filter fun k => k != q).map (at_ r)) i = _
  rw [h.len r hr]
  exact at_map e
theorem del_par (h : Tb T) (hq : q < wid T) : parV (delT T q) = parV T - varR (colL T q) := by
  have w := h.delw hq
  have key : (List.range (wid (delT T q))).map (fun i => varR (colL (delT T q) i)) = ((List.range (wid T)).filter fun k => k != q).map fun k => varR (colL T k) := by
    have ll := del_len hq
    refine List.ext_getElem (by simp only [List.length_map, List.length_range, w, ll]) fun i h1 h2 => ?_
    have hi : i < ((List.range (wid T)).filter fun k => k != q).length := by simpa using h2
    simp only [List.getElem_map, List.getElem_range]
    rw [del_col h hq (List.getElem?_eq_getElem hi)]
  unfold parV
  rw [key]
  exact Sg_del hq fun k => varR (colL T k)
end
/-! ### what the law is told -/
def relD (m : Nat) (p w : Rat) : D := if m < 2 ∨ w = 0 then .non else fr (relR m p w)
def shpD (T : List (List Rat)) (q : Nat) : D := if prR (colL T q) (colL T q) * prR (rstL T q) (rstL T q) = 0 then .non else .tup [.int (sgR (prR (colL T q) (rstL T q))), fr (sqR (colL T q) (rstL T q))]
theorem ci_reliable {T : List (List Rat)} (h : Tb T) {Q : D → Prop} (q : Q (relD (wid T) (parV T) (varR (totL T)))) : φ_l_reliable [tabD T] Q := by
  unfold relD at q
  by_cases z : wid T < 2 ∨ varR (totL T) = 0
  · rw [if_pos z] at q
    exact .inl ⟨⟨T, rfl, h, z⟩, q⟩
  · rw [if_neg z] at q
    exact .inr ⟨T, rfl, h, by omega, fun e => z (.inr e), q⟩
theorem ci_without {T : List (List Rat)} (h : Tb T) {k : Nat} (hk : k < wid T) (h2 : 2 ≤ wid T) {Q : D → Prop} (q : Q (relD (wid T - 1) (parV T - varR (colL T k)) (varR (rstL T k)))) : φ_l_without [tabD T, .int (k : Nat)] Q := by
  rw [← h.delw hk, ← del_par h hk, ← del_tot h hk] at q
  unfold relD at q
  by_cases z : wid (delT T k) < 2 ∨ varR (totL (delT T k)) = 0
  · rw [if_pos z] at q
    exact .inl ⟨⟨T, k, rfl, h, hk, h2, z⟩, q⟩
  · rw [if_neg z] at q
    exact .inr ⟨T, k, rfl, h, hk, h2, by omega, fun e => z (.inr e), q⟩
theorem ci_sharp {T : List (List Rat)} (h : Tb T) {k : Nat} (hk : k < wid T) {Q : D → Prop} (q : Q (shpD T k)) : φ_l_sharp [tabD T, .int (k : Nat)] Q := by
  unfold shpD at q
  by_cases z : prR (colL T k) (colL T k) * prR (rstL T k) (rstL T k) = 0
  · rw [if_pos z] at q
    exact .inl ⟨⟨T, k, rfl, h, hk, z⟩, q⟩
  · rw [if_neg z] at q
    exact .inr ⟨T, k, rfl, h, hk, z, q⟩
theorem bb_z {b : Rat} (b0 : b ≠ 0) (x : Rat) : b * b * x = 0 ↔ x = 0 := by
  constructor
  · intro h
    rcases Rat.mul_eq_zero.mp h with h | h
    · rcases Rat.mul_eq_zero.mp h with h | h <;> exact absurd h b0
    · exact h
  · rintro rfl; exact Rat.mul_zero _
theorem relD_mul {b : Rat} (b0 : b ≠ 0) (m : Nat) (p w : Rat) : relD m (b * b * p) (b * b * w) = relD m p w := by
  unfold relD
  by_cases z : m < 2 ∨ w = 0
  · rw [if_pos z, if_pos (z.elim .inl fun e => .inr ((bb_z b0 w).mpr e))]
  · have w0 : w ≠ 0 := fun e => z (.inr e)
    rw [if_neg z, if_neg fun y => z (y.elim .inl fun e => .inr ((bb_z b0 w).mp e))]
    unfold relR
    have : b * b * p / (b * b * w) = p / w := by grind
    rw [this]

end Pl
end

section
set_option linter.all false
set_option maxRecDepth 100000
set_option autoImplicit false
set_option maxHeartbeats 1000000
namespace Pl
open PySem
/-! ### the law's tables -/
structure Lt (T : List (List Rat)) (m : Nat) : Prop where
  ne : T ≠ []
  few : T.length ≤ 6
  m2 : 2 ≤ m
  m4 : m ≤ 4
  len : ∀ r ∈ T, r.length = m
  q : ∀ r ∈ T, ∀ x ∈ r, Rq 12 48 x
def phi (o : List Nat) (p : Nat) (c b : Rat) (r : List Rat) : List Rat := o.map fun k => (if k = p then at_ r k + c else at_ r k) * b
structure St (T U : List (List Rat)) (m : Nat) (o : List Nat) (p : Nat) (c b : Rat) : Prop where
  tT : Lt T m
  uU : U.Perm T
  oo : o.Perm (List.range m)
  pp : p < m
  cc : Rq 12 36 c
  bb : Rq 2 4 b
  b0 : b ≠ 0
theorem wid_of {T : List (List Rat)} {m : Nat} (h0 : T ≠ []) (h : ∀ r ∈ T, r.length = m) : wid T = m := by
  cases T with
  | nil => exact absurd rfl h0
  | cons r T => exact h r List.mem_cons_self
theorem Lt.wid {T : List (List Rat)} {m : Nat} (h : Lt T m) : wid T = m := wid_of h.ne h.len
theorem rq_two {M N : Nat} {q : Rat} (h : Rq M N q) : Rq (2 * M) (2 * N) q := by
  obtain ⟨k, rfl, b⟩ := h
  refine ⟨2 * k, ?_, by omega⟩
  rw [Rat.intCast_mul, Int.natCast_mul, Rat.intCast_mul, show (((2 : Nat) : Int) : Rat) = 2 from rfl, show ((2 : Int) : Rat) = 2 from rfl]
  grind
theorem Lt.tb {T : List (List Rat)} {m : Nat} (h : Lt T m) : Tb T := by
  have w := h.wid
  have m2 := h.m2
  exact ⟨h.ne, h.few, by omega, by have := h.m4; omega, fun r hr => by rw [w]; exact h.len r hr, fun r hr x hx => (rq_two (h.q r hr x hx)).mono (by omega)⟩
section
variable {T U : List (List Rat)} {m p : Nat} {o : List Nat} {c b : Rat}
theorem St.ul (h : St T U m o p c b) {r : List Rat} (hr : r ∈ U) : r ∈ T := (h.uU.mem_iff).mp hr
theorem St.olen (h : St T U m o p c b) : o.length = m := by rw [h.oo.length_eq, List.length_range]
theorem St.olt (h : St T U m o p c b) {k : Nat} (hk : k ∈ o) : k < m := List.mem_range.mp ((h.oo.mem_iff).mp hk)
theorem St.at_q (h : St T U m o p c b) {r : List Rat} (hr : r ∈ T) {k : Nat} (hk : k < m) : Rq 12 48 (at_ r k) := h.tT.q r hr _ (at_mem (by rw [h.tT.len r hr]; exact hk))
theorem St.mq (h : St T U m o p c b) {r : List Rat} (hr : r ∈ T) {k : Nat} (hk : k < m) : Rq 12 84 (if k = p then at_ r k + c else at_ r k) := by
  have a := h.at_q hr hk
  split
  · exact (a.add h.cc).mono (by omega)
  · exact a.mono (by omega)
theorem St.une (h : St T U m o p c b) : U ≠ [] := fun z => h.tT.ne (by have := h.uU; rw [z] at this; exact this.nil_eq.symm)
theorem St.tb (h : St T U m o p c b) : Tb (U.map (phi o p c b)) ∧ wid (U.map (phi o p c b)) = m := by
  have w : wid (U.map (phi o p c b)) = m := wid_of (by simpa using h.une) fun x hx => by
    obtain ⟨r, hr, rfl⟩ := List.mem_map.mp hx
    unfold phi
    rw [List.length_map]
    exact h.olen
  have m2 := h.tT.m2
  have m4 := h.tT.m4
  refine ⟨⟨by simpa using h.une, by rw [List.length_map, h.uU.length_eq]; exact h.tT.few, by omega, by omega, fun x hx => ?_, fun x hx y hy => ?_⟩, w⟩
  · obtain ⟨r, hr, rfl⟩ := List.mem_map.mp hx
    rw [w]
    unfold phi
    rw [List.length_map]
    exact h.olen
  · obtain ⟨r, hr, rfl⟩ := List.mem_map.mp hx
    obtain ⟨k, hk, rfl⟩ := List.mem_map.mp hy
    exact (rq_mul (h.mq (h.ul hr) (h.olt hk)) h.bb).mono (by omega)
theorem phi_at {j k : Nat} (e : o[j]? = some k) (r : List Rat) : at_ (phi o p c b r) j = b * (at_ r k + if k = p then c else 0) := by
  have : at_ (phi o p c b r) j = (if k = p then at_ r k + c else at_ r k) * b := at_map (f := fun k => (if k = p then at_ r k + c else at_ r k) * b) e
  rw [this]
  split <;> grind
theorem phi_sum (h : St T U m o p c b) {r : List Rat} (hr : r ∈ T) : sumR (phi o p c b r) = b * (sumR r + c) := by
  have e1 : sumR (phi o p c b r) = Sg o fun k => b * at_ r k + b * (if k = p then c else 0) + 0 := by
    show Sg o (fun k => (if k = p then at_ r k + c else at_ r k) * b) = _
    refine Sg_congr fun k _ => ?_
    split <;> grind
  rw [e1, Sg_perm h.oo, Sg_lin, Sg_one, if_pos h.pp, sum_at r, h.tT.len r hr]
  grind
theorem col_Pr (T : List (List Rat)) (h : T ≠ []) (q : Nat) : prR (colL T q) (colL T q) = Pr T (fun r => at_ r q) (fun r => at_ r q) := pr_Pr h _ _
theorem tot_Pr (T : List (List Rat)) (h : T ≠ []) : prR (totL T) (totL T) = Pr T sumR sumR := pr_Pr h _ _
theorem rst_Pr (T : List (List Rat)) (h : T ≠ []) (q : Nat) : prR (rstL T q) (rstL T q) = Pr T (fun r => sumR r - at_ r q) (fun r => sumR r - at_ r q) := pr_Pr h _ _
theorem cr_Pr (T : List (List Rat)) (h : T ≠ []) (q : Nat) : prR (colL T q) (rstL T q) = Pr T (fun r => at_ r q) (fun r => sumR r - at_ r q) := pr_Pr h _ _
theorem Pr_map (f : List Rat → List Rat) (g k : List Rat → Rat) : Pr (U.map f) g k = Pr U (fun r => g (f r)) (fun r => k (f r)) := by
  unfold Pr Sg
  rw [List.map_map, List.map_map, List.map_map, List.length_map]
  rfl
theorem St.mne (h : St T U m o p c b) : U.map (phi o p c b) ≠ [] := by simpa using h.une
theorem St.col (h : St T U m o p c b) {j k : Nat} (e : o[j]? = some k) : prR (colL (U.map (phi o p c b)) j) (colL (U.map (phi o p c b)) j) = b * b * prR (colL T k) (colL T k) := by
  rw [col_Pr _ h.mne, col_Pr _ h.tT.ne, Pr_map, ← Pr_perm h.uU]
  exact Pr_mov h.une (fun r _ => phi_at e r) fun r _ => phi_at e r
theorem St.tot (h : St T U m o p c b) : prR (totL (U.map (phi o p c b))) (totL (U.map (phi o p c b))) = b * b * prR (totL T) (totL T) := by
  rw [tot_Pr _ h.mne, tot_Pr _ h.tT.ne, Pr_map, ← Pr_perm h.uU]
  exact Pr_mov h.une (fun r hr => phi_sum h (h.ul hr)) fun r hr => phi_sum h (h.ul hr)
theorem phi_rst (h : St T U m o p c b) {j k : Nat} (e : o[j]? = some k) {r : List Rat} (hr : r ∈ T) : sumR (phi o p c b r) - at_ (phi o p c b r) j = b * ((sumR r - at_ r k) + (c - if k = p then c else 0)) := by
  rw [phi_sum h hr, phi_at e]
  grind
theorem St.rst (h : St T U m o p c b) {j k : Nat} (e : o[j]? = some k) : prR (rstL (U.map (phi o p c b)) j) (rstL (U.map (phi o p c b)) j) = b * b * prR (rstL T k) (rstL T k) := by
  rw [rst_Pr _ h.mne, rst_Pr _ h.tT.ne, Pr_map, ← Pr_perm h.uU]
  exact Pr_mov h.une (fun r hr => phi_rst h e (h.ul hr)) fun r hr => phi_rst h e (h.ul hr)
theorem St.cr (h : St T U m o p c b) {j k : Nat} (e : o[j]? = some k) : prR (colL (U.map (phi o p c b)) j) (rstL (U.map (phi o p c b)) j) = b * b * prR (colL T k) (rstL T k) := by
  rw [cr_Pr _ h.mne, cr_Pr _ h.tT.ne, Pr_map, ← Pr_perm h.uU]
  exact Pr_mov h.une (fun r _ => phi_at e r) fun r hr => phi_rst h e (h.ul hr)
theorem St.ml (h : St T U m o p c b) : (U.map (phi o p c b)).length = T.length := by rw [List.length_map, h.uU.length_eq]
theorem var_of {l k : List Rat} (e : l.length = k.length) {x : Rat} (h : prR l l = x * prR k k) : varR l = x * varR k := by
  unfold varR
  rw [h, e, Rat.div_def, Rat.div_def, Rat.mul_assoc]
theorem St.vcol (h : St T U m o p c b) {j k : Nat} (e : o[j]? = some k) : varR (colL (U.map (phi o p c b)) j) = b * b * varR (colL T k) := var_of (by simp [colL, h.uU.length_eq]) (h.col e)
theorem St.vtot (h : St T U m o p c b) : varR (totL (U.map (phi o p c b))) = b * b * varR (totL T) := var_of (by simp [totL, h.uU.length_eq]) h.tot
theorem St.vrst (h : St T U m o p c b) {j k : Nat} (e : o[j]? = some k) : varR (rstL (U.map (phi o p c b)) j) = b * b * varR (rstL T k) := var_of (by simp [rstL, h.uU.length_eq]) (h.rst e)
theorem St.par (h : St T U m o p c b) : parV (U.map (phi o p c b)) = b * b * parV T := by
  have key : (List.range m).map (fun j => varR (colL (U.map (phi o p c b)) j)) = o.map fun k => b * b * varR (colL T k) := by
    refine List.ext_getElem (by simp [h.olen]) fun i h1 h2 => ?_
    have hi : i < o.length := by simpa using h2
    simp only [List.getElem_map, List.getElem_range]
    rw [h.vcol (List.getElem?_eq_getElem hi)]
  unfold parV
  rw [h.tb.2, key, h.tT.wid]
  show Sg o (fun k => b * b * varR (colL T k)) = b * b * Sg (List.range m) fun q => varR (colL T q)
  rw [Sg_perm h.oo]
  have := Sg_lin (List.range m) (fun q => varR (colL T q)) (fun _ => 0) (b * b) 0 0
  rw [Sg_congr (g := fun k => b * b * varR (colL T k) + 0 * 0 + 0) fun k _ => by grind, this]
  grind
theorem bb_pos (b0 : b ≠ 0) : 0 < b * b := by
  rcases (by grind : 0 < b ∨ b < 0) with h | h
  · exact Rat.mul_pos h h
  · have := Rat.mul_pos (show 0 < -b by grind) (show 0 < -b by grind)
    grind
theorem sg_eq (a : Rat) : sgR a = if 0 < a then 1 else if a < 0 then -1 else 0 := by
  unfold sgR
  have p : 0 < a.num ↔ 0 < a := by
    have h1 := Rat.num_nonneg (q := -a)
    rw [Rat.neg_num] at h1
    constructor
    · intro h
      have : ¬ 0 ≤ -a := fun z => by have := h1.mpr z; omega
      grind
    · intro h
      have : ¬ 0 ≤ -a := by grind
      have : ¬ 0 ≤ -a.num := fun z => this (h1.mp z)
      omega
  have q : a.num < 0 ↔ a < 0 := by
    have h1 := Rat.num_nonneg (q := a)
    constructor
    · intro h
      have : ¬ 0 ≤ a := fun z => by have := h1.mpr z; omega
      grind
    · intro h
      have : ¬ 0 ≤ a := by grind
      have : ¬ 0 ≤ a.num := fun z => this (h1.mp z)
      omega
  by_cases h : 0 < a
  · rw [if_pos (p.mpr h), if_neg (fun z => by have := q.mp z; grind), if_pos h]; rfl
  · rw [if_neg (fun z => h (p.mp z)), if_neg h]
    by_cases k : a < 0
    · rw [if_pos (q.mpr k), if_pos k]; rfl
    · rw [if_neg (fun z => k (q.mp z)), if_neg k]; rfl
theorem pos_mul {x y : Rat} (hx : 0 < x) : 0 < x * y ↔ 0 < y := by
  constructor
  · intro h
    by_cases k : 0 < y
    · exact k
    · have := Rat.mul_le_mul_of_nonneg_right (show 0 ≤ -y by grind) (Rat.le_of_lt hx)
      grind
  · intro h; exact Rat.mul_pos hx h
theorem sg_pos {x : Rat} (hx : 0 < x) (y : Rat) : sgR (x * y) = sgR y := by
  have p := pos_mul (y := y) hx
  have q := pos_mul (y := -y) hx
  have e : x * -y = -(x * y) := by grind
  rw [e] at q
  have q2 : x * y < 0 ↔ y < 0 := ⟨fun h => by have := q.mp (by grind); grind, fun h => by have := q.mpr (by grind); grind⟩
  rw [sg_eq, sg_eq]
  simp only [p, q2]
theorem St.shp (h : St T U m o p c b) {j k : Nat} (e : o[j]? = some k) : shpD (U.map (phi o p c b)) j = shpD T k := by
  have b0 := h.b0
  have bp := bb_pos b0
  unfold shpD sqR
  rw [h.col e, h.rst e, h.cr e, sg_pos bp]
  generalize prR (colL T k) (rstL T k) = x
  generalize prR (colL T k) (colL T k) = y
  generalize prR (rstL T k) (rstL T k) = z
  have e1 : b * b * y * (b * b * z) = (b * b) * (b * b) * (y * z) := by grind
  by_cases yz : y * z = 0
  · rw [if_pos yz, if_pos (by rw [e1, yz, Rat.mul_zero])]
  · have n : ¬ b * b * y * (b * b * z) = 0 := fun w => yz (by
      rw [e1] at w
      rcases Rat.mul_eq_zero.mp w with w | w
      · exact absurd (by rcases Rat.mul_eq_zero.mp w with w | w <;> exact w) (show ¬ b * b = 0 by grind)
      · exact w)
    rw [if_neg yz, if_neg n]
    have : b * b * x * (b * b * x) / (b * b * y * (b * b * z)) = x * x / (y * z) := by
      rw [e1, show b * b * x * (b * b * x) = (b * b) * (b * b) * (x * x) by grind]
      generalize hB : b * b * (b * b) = B
      have B0 : B ≠ 0 := by
        intro w
        rw [← hB] at w
        rcases Rat.mul_eq_zero.mp w with w | w <;> grind
      generalize y * z = u at *
      generalize x * x = v
      grind
    rw [this]
end
/-! ### no more than one -/
theorem sq_nn (a : Rat) : 0 ≤ a * a := by
  rcases (by grind : 0 ≤ a ∨ a ≤ 0) with h | h
  · exact Rat.mul_nonneg h h
  · have := Rat.mul_nonneg (show 0 ≤ -a by grind) (show 0 ≤ -a by grind)
    grind
theorem Sg_nn {α : Type} {T : List α} {f : α → Rat} (h : ∀ r ∈ T, 0 ≤ f r) : 0 ≤ Sg T f := by
  have := Sg_le (f := fun _ => 0) h
  rw [Sg_zero] at this
  exact this
theorem dev_sum (y : Nat → Rat) (z : Rat) (m : Nat) : Sg (List.range m) (fun i => (y i - z) * (y i - z)) = Sg (List.range m) (fun i => y i * y i) - 2 * z * Sg (List.range m) y + z * z * ((m : Nat) : Int) := by
  have := Sg_lin (List.range m) (fun i => y i * y i) y 1 (-(2 * z)) (z * z)
  rw [Sg_congr (g := fun i => 1 * (y i * y i) + -(2 * z) * y i + z * z) fun i _ => by grind, this, List.length_range]
  grind
theorem Sg_succ (m : Nat) (f : Nat → Rat) : Sg (List.range (m + 1)) f = Sg (List.range m) f + f m := by
  unfold Sg
  rw [List.range_succ, List.map_append, sumR_app]
  show _ + sumR [f m] = _
  rw [sumR_cons]
  show _ + (_ + 0) = _
  grind
theorem cauchy (y : Nat → Rat) : ∀ m : Nat, Sg (List.range m) y * Sg (List.range m) y ≤ ((m : Nat) : Int) * Sg (List.range m) fun i => y i * y i
  | 0 => by simp [Sg, sumR]
  | m + 1 => by
    have ih := cauchy y m
    have d := Sg_nn (T := List.range m) (f := fun i => (y i - y m) * (y i - y m)) fun i _ => sq_nn _
    rw [dev_sum] at d
    rw [Sg_succ, Sg_succ, len_succ]
    generalize Sg (List.range m) y = s at *
    generalize Sg (List.range m) (fun i => y i * y i) = q at *
    generalize (((m : Nat) : Int) : Rat) = n at *
    generalize y m = z at *
    grind
theorem prR_self (l : List Rat) : prR l l = Sg l fun x => (x - meanR l) * (x - meanR l) := by
  unfold prR Sg
  congr 1
  refine List.ext_getElem (by simp) fun i h1 h2 => ?_
  simp
section
variable {T : List (List Rat)}
theorem mean_tot (h : Tb T) : meanR (totL T) = Sg (List.range (wid T)) fun q => meanR (colL T q) := by
  have n := lenT_ne h.ne
  have e1 : sumR (totL T) = Sg (List.range (wid T)) fun q => sumR (colL T q) := by
    show Sg T (fun r => sumR r) = Sg (List.range (wid T)) fun q => Sg T fun r => at_ r q
    rw [← Sg_swap]
    exact Sg_congr fun r hr => by rw [sum_at, h.len r hr]
  have l1 : (totL T).length = T.length := by simp [totL]
  have l2 : ∀ q, (colL T q).length = T.length := fun q => by simp [colL]
  unfold meanR
  rw [e1, l1, Sg_congr (f := fun q => sumR (colL T q) / (((colL T q).length : Nat) : Int)) (g := fun q => (1 / (((T.length : Nat) : Int) : Rat)) * sumR (colL T q) + 0 * 0 + 0) fun q _ => by
    rw [l2]
    generalize (((T.length : Nat) : Int) : Rat) = w at *
    grind, Sg_lin (List.range (wid T)) (fun q => sumR (colL T q)) (fun _ => 0)]
  generalize Sg (List.range (wid T)) (fun q => sumR (colL T q)) = x
  generalize (((T.length : Nat) : Int) : Rat) = w at *
  grind
theorem tot_le (h : Tb T) : prR (totL T) (totL T) ≤ ((wid T : Nat) : Int) * Sg (List.range (wid T)) fun q => prR (colL T q) (colL T q) := by
  have e1 : prR (totL T) (totL T) = Sg T fun r => (Sg (List.range (wid T)) fun q => at_ r q - meanR (colL T q)) * (Sg (List.range (wid T)) fun q => at_ r q - meanR (colL T q)) := by
    rw [prR_self]
    unfold totL
    show sumR ((T.map sumR).map _) = sumR (T.map _)
    rw [List.map_map]
    congr 1
    refine List.map_congr_left fun r hr => ?_
    have : sumR r - meanR (totL T) = Sg (List.range (wid T)) fun q => at_ r q - meanR (colL T q) := by
      have l := Sg_lin (List.range (wid T)) (at_ r) (fun q => meanR (colL T q)) 1 (-1) 0
      rw [Sg_congr (g := fun q => 1 * at_ r q + -1 * meanR (colL T q) + 0) fun q _ => by grind, l, mean_tot h, sum_at r, h.len r hr]
      grind
    rw [← this]
    rfl
  have e2 : (Sg (List.range (wid T)) fun q => prR (colL T q) (colL T q)) = Sg T fun r => Sg (List.range (wid T)) fun q => (at_ r q - meanR (colL T q)) * (at_ r q - meanR (colL T q)) := by
    rw [Sg_swap]
    refine Sg_congr fun q _ => ?_
    rw [prR_self]
    show sumR ((T.map _).map _) = sumR (T.map _)
    rw [List.map_map]
    rfl
  rw [e1, e2]
  have l := Sg_lin T (fun r => Sg (List.range (wid T)) fun q => (at_ r q - meanR (colL T q)) * (at_ r q - meanR (colL T q))) (fun _ => 0) ((wid T : Nat) : Int) 0 0
  have : (((wid T : Nat) : Int) : Rat) * Sg T (fun r => Sg (List.range (wid T)) fun q => (at_ r q - meanR (colL T q)) * (at_ r q - meanR (colL T q))) = Sg T fun r => ((wid T : Nat) : Int) * Sg (List.range (wid T)) fun q => (at_ r q - meanR (colL T q)) * (at_ r q - meanR (colL T q)) := by
    rw [Sg_congr (f := fun r => (((wid T : Nat) : Int) : Rat) * Sg (List.range (wid T)) fun q => (at_ r q - meanR (colL T q)) * (at_ r q - meanR (colL T q))) (g := fun r => ((wid T : Nat) : Int) * (Sg (List.range (wid T)) fun q => (at_ r q - meanR (colL T q)) * (at_ r q - meanR (colL T q))) + 0 * 0 + 0) fun r _ => by grind, l]
    grind
  rw [this]
  exact Sg_le fun r _ => cauchy (fun q => at_ r q - meanR (colL T q)) (wid T)
theorem rel_le (h : Tb T) (h2 : 2 ≤ wid T) (w0 : varR (totL T) ≠ 0) : relR (wid T) (parV T) (varR (totL T)) ≤ 1 := by
  have n := lenT_ne h.ne
  have npos : (0 : Rat) < ((T.length : Nat) : Int) := by
    have := Rat.intCast_pos.mpr (show (0 : Int) < (T.length : Nat) by have := h.n0; omega)
    exact this
  have tl := tot_le h
  have e1 : varR (totL T) * ((T.length : Nat) : Int) = prR (totL T) (totL T) := by
    unfold varR
    rw [show (totL T).length = T.length by simp [totL]]
    generalize (((T.length : Nat) : Int) : Rat) = w at *
    grind
  have e2 : parV T * ((T.length : Nat) : Int) = Sg (List.range (wid T)) fun q => prR (colL T q) (colL T q) := by
    show Sg (List.range (wid T)) (fun q => varR (colL T q)) * _ = _
    have l := Sg_lin (List.range (wid T)) (fun q => varR (colL T q)) (fun _ => 0) ((T.length : Nat) : Int) 0 0
    rw [Sg_congr (f := fun q => prR (colL T q) (colL T q)) (g := fun q => ((T.length : Nat) : Int) * varR (colL T q) + 0 * 0 + 0) fun q _ => by
      unfold varR
      rw [show (colL T q).length = T.length by simp [colL]]
      generalize (((T.length : Nat) : Int) : Rat) = w at *
      grind, l]
    grind
  rw [← e1, ← e2] at tl
  have wn : 0 ≤ varR (totL T) * ((T.length : Nat) : Int) := by
    rw [e1, prR_self]
    exact Sg_nn fun x _ => sq_nn _
  have mpos : (2 : Rat) ≤ ((wid T : Nat) : Int) := by
    have := Rat.intCast_le_intCast.mpr (show (2 : Int) ≤ (wid T : Nat) by omega)
    exact this
  unfold relR
  rw [show ((((wid T : Nat) : Int) - 1 : Int) : Rat) = ((wid T : Nat) : Int) - 1 by rw [Rat.intCast_sub]; rfl]
  generalize (((wid T : Nat) : Int) : Rat) = m at *
  generalize varR (totL T) = w at *
  generalize parV T = p at *
  generalize (((T.length : Nat) : Int) : Rat) = k at *
  have tl2 : w ≤ m * p := by
    by_cases c : w ≤ m * p
    · exact c
    · have := Rat.mul_lt_mul_of_pos_right (show m * p < w by grind) npos
      grind
  have wp : 0 < w := by
    by_cases c : 0 < w
    · exact c
    · have := Rat.mul_lt_mul_of_pos_right (show w < 0 by grind) npos
      grind
  have m1 : 0 < m - 1 := by grind
  -- m (1 - p / w) ≤ m - 1
  have x1 : 1 ≤ m * (p / w) := by
    by_cases c : 1 ≤ m * (p / w)
    · exact c
    · have := Rat.mul_lt_mul_of_pos_right (show m * (p / w) < 1 by grind) wp
      have e : m * (p / w) * w = m * p := by grind
      rw [e] at this
      grind
  by_cases c : m / (m - 1) * (1 - p / w) ≤ 1
  · exact c
  · have := Rat.mul_lt_mul_of_pos_right (show 1 < m / (m - 1) * (1 - p / w) by grind) m1
    have e : m / (m - 1) * (1 - p / w) * (m - 1) = m * (1 - p / w) := by
      generalize p / w = z
      have : m - 1 ≠ 0 := by grind
      grind
    rw [e] at this
    generalize p / w = z at *
    grind
end
/-! ### longer papers -/
theorem div_both {a D d : Rat} (h1 : D ≠ 0) (h2 : d ≠ 0) : a / D = a * d / (D * d) := by
  rw [Rat.div_def, Rat.div_def, Rat.inv_mul_rev]
  grind
theorem len_ok {r f g : Rat} (r0 : 0 ≤ r) (r1 : r ≤ 1) (f1 : 1 ≤ f) (g1 : 1 / 2 ≤ g) : 1 + (f - 1) * r ≠ 0 ∧ 1 + (g - 1) * lenR r f ≠ 0 ∧ 1 + (f * g - 1) * r ≠ 0 ∧ lenR (lenR r f) g = lenR r (f * g) := by
  have a1 : 0 ≤ (f - 1) * r := Rat.mul_nonneg (by grind) r0
  have d1 : 0 < 1 + (f - 1) * r := by grind
  have fg : 1 / 2 ≤ f * g := by
    have := Rat.mul_le_mul_of_nonneg_right f1 (show 0 ≤ g by grind)
    grind
  have a3 : 0 ≤ (f * g - 1 / 2) * r := Rat.mul_nonneg (by grind) r0
  have d3 : 0 < 1 + (f * g - 1) * r := by grind
  have e : (1 + (g - 1) * lenR r f) * (1 + (f - 1) * r) = 1 + (f * g - 1) * r := by
    unfold lenR
    have : 1 + (f - 1) * r ≠ 0 := by grind
    generalize hd : 1 + (f - 1) * r = d at *
    have e2 : (1 + (g - 1) * (f * r / d)) * d = d + (g - 1) * (f * r) := by grind
    rw [e2, ← hd]
    grind
  have d2 : 1 + (g - 1) * lenR r f ≠ 0 := fun z => by rw [z, Rat.zero_mul] at e; grind
  refine ⟨by grind, d2, by grind, ?_⟩
  have e3 : lenR (lenR r f) g = g * lenR r f / (1 + (g - 1) * lenR r f) := rfl
  have e4 : lenR r (f * g) = f * g * r / (1 + (f * g - 1) * r) := rfl
  have e5 : lenR r f * (1 + (f - 1) * r) = f * r := by
    unfold lenR
    have : 1 + (f - 1) * r ≠ 0 := by grind
    generalize 1 + (f - 1) * r = d at *
    grind
  rw [e3, e4, ← e]
  have n1 : 1 + (f - 1) * r ≠ 0 := by grind
  generalize 1 + (f - 1) * r = d at *
  generalize hD : 1 + (g - 1) * lenR r f = D at *
  generalize lenR r f = x at *
  have e6 : f * g * r = g * x * d := by rw [Rat.mul_assoc g x d, e5]; grind
  rw [e6]
  exact div_both d2 n1

end Pl
end

section
set_option linter.all false
set_option maxRecDepth 100000
set_option autoImplicit false
set_option maxHeartbeats 1000000
namespace Pl
open PySem
theorem tf_rq {N : Nat} {q : Rat} (h : Tf (N : Int) q) : Rq 12 N q := by
  obtain ⟨k, rfl, k0, k1⟩ := h
  exact ⟨k, rfl, by omega⟩
theorem deq_rel (m : Nat) (p w : Rat) : deq (relD m p w) (relD m p w) = true := by
  unfold relD
  split
  · rfl
  · rw [deq_fr]; simp
theorem plain_rel (m : Nat) (p w : Rat) : plain 20 (relD m p w) = true := by
  unfold relD
  split
  · rfl
  · exact plain_fr 19 _
theorem plain_pair (k : Nat) (s : Int) (q : Rat) : plain (k + 3) (.tup [.int s, fr q]) = true := by
  have e : plain (k + 2) (fr q) = true := plain_fr _ _
  have e2 : plain (k + 2) (.int s) = true := plain_int
  simp only [plain_tup, plains_cons, e, e2, plains_nil, Bool.and_true]
theorem deq_shp (T : List (List Rat)) (q : Nat) : deq (shpD T q) (shpD T q) = true := by
  unfold shpD
  split
  · rfl
  · simp only [deq_tup_tup, deqs_cons, deqs_nil, deq_int_int, deq_fr]; simp
theorem plain_shp (T : List (List Rat)) (q : Nat) : plain 20 (shpD T q) = true := by
  unfold shpD
  split
  · rfl
  · exact plain_pair 17 _ _
theorem lt4000 {n : Nat} (h : n < 1024) : n < 2 ^ 4000 := Nat.lt_of_lt_of_le (show n < 2 ^ 10 by omega) (Nat.pow_le_pow_right (n := 2) (show 2 > 0 by omega) (show 10 ≤ 4000 by omega))
theorem st_0 (A : AEnds) {s0 s2 s3 s4 s5 s6 s7 s8 s9 s10 s11 s12 s13 s14 s15 s16 s17 s18 : Slot} (h : ∀ m : Nat, 2 ≤ m → m ≤ 4 → A.nx [s0, .val .tape, .val (.int (m : Nat)), s3, s4, s5, s6, s7, s8, s9, s10, s11, s12, s13, s14, s15, s16, s17, s18]) : S_law_0 A [s0, .val .tape, s2, s3, s4, s5, s6, s7, s8, s9, s10, s11, s12, s13, s14, s15, s16, s17, s18] := by
  simp only [S_law_0, wSet, wBin, wC, wCall, wCons, wNil, wVar, dAdd, List.getElem?_cons_zero, List.getElem?_cons_succ, List.set_cons_zero, List.set_cons_succ, List.map_cons, List.map_nil, List.cons_append, List.nil_append, List.length_cons, List.length_nil, List.replicate, Option.some.injEq, Slot.val.injEq, Slot.own.injEq, D.lst.injEq, exists_eq_left', exists_eq_left, exists_eq', true_and, and_true, Nat.reduceAdd, Nat.reduceSub, Nat.reduceLeDiff, Bool.false_eq_true, if_true, if_false, ↓reduceIte, Int.reduceMul, Int.reduceAdd, Int.reduceSub, Int.reduceNeg, Int.reduceLT, Int.reduceLE, Int.reduceEq, Nat.reduceMul, Nat.reduceLT, String.reduceEq, String.reduceNe, Int.reduceToNat, reduceCtorEq, Bool.not_true, Bool.not_false, Bool.true_or, Bool.or_true, Bool.false_or, Bool.or_false, Bool.true_and, Bool.and_true, Bool.false_and, Bool.and_false, Bool.not_eq_true', decide_eq_true_eq, decide_eq_false_iff_not, not_true_eq_false, not_false_eq_true, cl_l_draw]
  intro d d0 d1
  have := h (2 + d).toNat (by omega) (by omega)
  rw [show (((2 + d).toNat : Nat) : Int) = 2 + d by omega] at this
  exact this
section
variable {T U : List (List Rat)} {m p : Nat} {o : List Nat} {c b : Rat}
theorem st_1 (A : AEnds) {s0 s3 s4 s5 s6 s7 s8 s9 s10 s11 s12 s13 s14 s15 s16 s17 s18 : Slot} (m2 : 2 ≤ m) (m4 : m ≤ 4) (h : ∀ (T : List (List Rat)), Lt T m → A.nx [s0, .val .tape, .val (.int (m : Nat)), .val (tabD T), s4, s5, s6, s7, s8, s9, s10, s11, s12, s13, s14, s15, s16, s17, s18]) : S_law_1 A [s0, .val .tape, .val (.int (m : Nat)), s3, s4, s5, s6, s7, s8, s9, s10, s11, s12, s13, s14, s15, s16, s17, s18] := by
  simp only [S_law_1, wSet, wLc, wRng1, wCall, wCons, wNil, wVar, wC, wBin, dAdd, wipeE, List.getElem?_cons_zero, List.getElem?_cons_succ, List.set_cons_zero, List.set_cons_succ, List.map_cons, List.map_nil, List.cons_append, List.nil_append, List.length_cons, List.length_nil, List.replicate, Option.some.injEq, Slot.val.injEq, Slot.own.injEq, D.lst.injEq, exists_eq_left', exists_eq_left, exists_eq', true_and, and_true, Nat.reduceAdd, Nat.reduceSub, Nat.reduceLeDiff, Bool.false_eq_true, if_true, if_false, ↓reduceIte, Int.reduceMul, Int.reduceAdd, Int.reduceSub, Int.reduceNeg, Int.reduceLT, Int.reduceLE, Int.reduceEq, Nat.reduceMul, Nat.reduceLT, String.reduceEq, String.reduceNe, Int.reduceToNat, reduceCtorEq, Bool.not_true, Bool.not_false, Bool.true_or, Bool.or_true, Bool.false_or, Bool.or_false, Bool.true_and, Bool.and_true, Bool.false_and, Bool.and_false, Bool.not_eq_true', decide_eq_true_eq, decide_eq_false_iff_not, not_true_eq_false, not_false_eq_true, cl_l_draw]
  intro d d0 d1
  refine ⟨by omega, ?_⟩
  have e : rngD 0 (2 + d).toNat = (List.range (2 + d).toNat).map nD := rng_nD _
  rw [e]
  refine comp_any (v := rowD) (R := fun r => r.length = m ∧ ∀ x ∈ r, Rq 12 48 x) (List.range (2 + d).toNat) [] _ (by simp; omega) (fun x hx P pp => ?_) fun rs hl hr => ?_
  · simp only [wBind, bindT, wLc, wRng1, wCall, wCons, wNil, wVar, wC, wipeE, List.getElem?_cons_zero, List.getElem?_cons_succ, List.set_cons_zero, List.set_cons_succ, List.map_cons, List.map_nil, List.cons_append, List.nil_append, List.length_cons, List.length_nil, List.replicate, Option.some.injEq, Slot.val.injEq, Slot.own.injEq, D.lst.injEq, exists_eq_left', exists_eq_left, exists_eq', true_and, and_true, Nat.reduceAdd, Nat.reduceSub, Nat.reduceLeDiff, Bool.false_eq_true, if_true, if_false, ↓reduceIte, Int.reduceMul, Int.reduceAdd, Int.reduceSub, Int.reduceNeg, Int.reduceLT, Int.reduceLE, Int.reduceEq, Nat.reduceMul, Nat.reduceLT, String.reduceEq, String.reduceNe, Int.reduceToNat, reduceCtorEq, Bool.not_true, Bool.not_false, Bool.true_or, Bool.or_true, Bool.false_or, Bool.or_false, Bool.true_and, Bool.and_true, Bool.false_and, Bool.and_false, Bool.not_eq_true', decide_eq_true_eq, decide_eq_false_iff_not, not_true_eq_false, not_false_eq_true]
    refine ⟨by omega, ?_⟩
    have e : rngD 0 m = (List.range m).map nD := rng_nD _
    rw [Int.toNat_natCast, e]
    refine comp_any (v := fr) (R := fun x => Rq 12 48 x) (List.range m) [] _ (by simp; omega) (fun x hx P pp => ?_) fun r hl hr => ?_
    · simp only [wBind, bindT, wCall, wCons, wNil, wVar, wC, List.getElem?_cons_zero, List.getElem?_cons_succ, List.set_cons_zero, List.set_cons_succ, List.map_cons, List.map_nil, List.cons_append, List.nil_append, List.length_cons, List.length_nil, List.replicate, Option.some.injEq, Slot.val.injEq, Slot.own.injEq, D.lst.injEq, exists_eq_left', exists_eq_left, exists_eq', true_and, and_true, Nat.reduceAdd, Nat.reduceSub, Nat.reduceLeDiff, Bool.false_eq_true, if_true, if_false, ↓reduceIte, Int.reduceMul, Int.reduceAdd, Int.reduceSub, Int.reduceNeg, Int.reduceLT, Int.reduceLE, Int.reduceEq, Nat.reduceMul, Nat.reduceLT, String.reduceEq, String.reduceNe, Int.reduceToNat, reduceCtorEq, Bool.not_true, Bool.not_false, Bool.true_or, Bool.or_true, Bool.false_or, Bool.or_false, Bool.true_and, Bool.and_true, Bool.false_and, Bool.and_false, Bool.not_eq_true', decide_eq_true_eq, decide_eq_false_iff_not, not_true_eq_false, not_false_eq_true, cl_l_fraction]
      exact fun t b b1 b2 t0 t1 => pp _ (tf_rq (N := 48) (tf_frac (m := 4) b1 b2 t0 t1))
    · rw [List.length_range] at hl
      exact pp r ⟨by simpa using hl, hr⟩
  · rw [List.length_range] at hl
    refine h rs ⟨fun z => by rw [z] at hl; simp at hl; omega, by omega, m2, m4, fun r hr' => (hr r hr').1, fun r hr' => (hr r hr').2⟩
theorem st_2 (A : AEnds) {s0 s4 s5 s6 s7 s8 s9 s10 s11 s12 s13 s14 s15 s16 s17 s18 : Slot} (hT : Lt T m) (h : ∀ (o : List Nat) (U : List (List Rat)), o.Perm (List.range m) → U.Perm T → A.nx [s0, .val .tape, .val (.int (m : Nat)), .val (tabD T), .val (.lst (o.map nD)), .val (tabD U), s6, s7, s8, s9, s10, s11, s12, s13, s14, s15, s16, s17, s18]) : S_law_2 A [s0, .val .tape, .val (.int (m : Nat)), .val (tabD T), s4, s5, s6, s7, s8, s9, s10, s11, s12, s13, s14, s15, s16, s17, s18] := by
  have m4 := hT.m4
  have few := hT.few
  have e : rngD 0 m = (List.range m).map nD := rng_nD m
  simp only [S_law_2, wPar, wCall, wCons, wNil, wVar, wListRng, List.getElem?_cons_zero, List.getElem?_cons_succ, List.set_cons_zero, List.set_cons_succ, List.map_cons, List.map_nil, List.cons_append, List.nil_append, List.length_cons, List.length_nil, List.replicate, Option.some.injEq, Slot.val.injEq, Slot.own.injEq, D.lst.injEq, exists_eq_left', exists_eq_left, exists_eq', true_and, and_true, Nat.reduceAdd, Nat.reduceSub, Nat.reduceLeDiff, Bool.false_eq_true, if_true, if_false, ↓reduceIte, Int.reduceMul, Int.reduceAdd, Int.reduceSub, Int.reduceNeg, Int.reduceLT, Int.reduceLE, Int.reduceEq, Nat.reduceMul, Nat.reduceLT, String.reduceEq, String.reduceNe, Int.reduceToNat, reduceCtorEq, Bool.not_true, Bool.not_false, Bool.true_or, Bool.or_true, Bool.false_or, Bool.or_false, Bool.true_and, Bool.and_true, Bool.false_and, Bool.and_false, Bool.not_eq_true', decide_eq_true_eq, decide_eq_false_iff_not, not_true_eq_false, not_false_eq_true, Int.toNat_natCast, e]
  refine ⟨⟨by omega, by omega⟩, ?_⟩
  rw [cl_l_stirred]
  refine ⟨by simp; omega, fun ys hy => ?_⟩
  unfold tabD
  rw [cl_l_stirred]
  refine ⟨by simp; omega, fun zs hz => ?_⟩
  obtain ⟨o, po, rfl⟩ := perm_typed hy _ rfl
  obtain ⟨U, pU, rfl⟩ := perm_typed hz _ rfl
  simp only [setAll, List.getElem?_cons_zero, List.getElem?_cons_succ, List.set_cons_zero, List.set_cons_succ, List.map_cons, List.map_nil, List.cons_append, List.nil_append, List.length_cons, List.length_nil, List.replicate, Option.some.injEq, Slot.val.injEq, Slot.own.injEq, D.lst.injEq, exists_eq_left', exists_eq_left, exists_eq', true_and, and_true, Nat.reduceAdd, Nat.reduceSub, Nat.reduceLeDiff, Bool.false_eq_true, if_true, if_false, ↓reduceIte, Int.reduceMul, Int.reduceAdd, Int.reduceSub, Int.reduceNeg, Int.reduceLT, Int.reduceLE, Int.reduceEq, Nat.reduceMul, Nat.reduceLT, String.reduceEq, String.reduceNe, Int.reduceToNat, reduceCtorEq, Bool.not_true, Bool.not_false, Bool.true_or, Bool.or_true, Bool.false_or, Bool.or_false, Bool.true_and, Bool.and_true, Bool.false_and, Bool.and_false, Bool.not_eq_true', decide_eq_true_eq, decide_eq_false_iff_not, not_true_eq_false, not_false_eq_true]
  exact h o U po pU
theorem by_ok {d : Int} (d0 : 0 ≤ d) (d1 : d < 4) : Rat.divInt (1 + d) 2 ≠ 0 ∧ Rq 2 4 (Rat.divInt (1 + d) 2) := by
  refine ⟨fun z => ?_, ⟨1 + d, by rw [Rat.divInt_eq_div]; rfl, by omega⟩⟩
  rw [Rat.divInt_eq_div] at z
  have : ((1 + d : Int) : Rat) = ((0 : Int) : Rat) := by
    show ((1 + d : Int) : Rat) = 0
    have e2 : ((2 : Int) : Rat) = 2 := rfl
    rw [e2] at z
    generalize ((1 + d : Int) : Rat) = v at *
    grind
  rw [Rat.intCast_inj] at this
  omega
theorem st_3 (A : AEnds) {s0 s3 s4 s5 s6 s7 s8 s9 s10 s11 s12 s13 s14 s15 s16 s17 s18 : Slot} (m2 : 2 ≤ m) (m4 : m ≤ 4) (h : ∀ (p : Nat) (c b : Rat), p < m → Rq 12 36 c → Rq 2 4 b → b ≠ 0 → A.nx [s0, .val .tape, .val (.int (m : Nat)), s3, s4, s5, .val (.int (p : Nat)), .val (fr c), .val (fr b), s9, s10, s11, s12, s13, s14, s15, s16, s17, s18]) : S_law_3 A [s0, .val .tape, .val (.int (m : Nat)), s3, s4, s5, s6, s7, s8, s9, s10, s11, s12, s13, s14, s15, s16, s17, s18] := by
  simp only [S_law_3, wAsg, wTup, wCall, wCons, wNil, wVar, wBin, wC, dAdd, List.getElem?_cons_zero, List.getElem?_cons_succ, List.set_cons_zero, List.set_cons_succ, List.map_cons, List.map_nil, List.cons_append, List.nil_append, List.length_cons, List.length_nil, List.replicate, Option.some.injEq, Slot.val.injEq, Slot.own.injEq, D.lst.injEq, exists_eq_left', exists_eq_left, exists_eq', true_and, and_true, Nat.reduceAdd, Nat.reduceSub, Nat.reduceLeDiff, Bool.false_eq_true, if_true, if_false, ↓reduceIte, Int.reduceMul, Int.reduceAdd, Int.reduceSub, Int.reduceNeg, Int.reduceLT, Int.reduceLE, Int.reduceEq, Nat.reduceMul, Nat.reduceLT, String.reduceEq, String.reduceNe, Int.reduceToNat, reduceCtorEq, Bool.not_true, Bool.not_false, Bool.true_or, Bool.or_true, Bool.false_or, Bool.or_false, Bool.true_and, Bool.and_true, Bool.false_and, Bool.and_false, Bool.not_eq_true', decide_eq_true_eq, decide_eq_false_iff_not, not_true_eq_false, not_false_eq_true, cl_l_draw, cl_l_fraction, cl_l_frac, wBind, bindT, setAll]
  refine ⟨by omega, fun d d0 d1 t u u1 u2 t0 t1 f f0 f1 => ?_⟩
  obtain ⟨b0, rb⟩ := by_ok f0 f1
  obtain ⟨k, rfl⟩ := Int.eq_ofNat_of_zero_le d0
  exact ⟨by omega, lt4000 (by omega), by decide, h k _ _ (by omega) (tf_rq (N := 36) (tf_frac (m := 3) u1 u2 t0 t1)) rb b0⟩
theorem st_4 (A : AEnds) {s0 s1 s2 s3 s4 s5 s6 s7 s8 s9 s10 s11 s12 s13 s14 s15 s16 s17 s18 : Slot} (h : A.nx [s0, s1, s2, s3, s4, s5, s6, s7, s8, .own (.lst []), s10, s11, s12, s13, s14, s15, s16, s17, s18]) : S_law_4 A [s0, s1, s2, s3, s4, s5, s6, s7, s8, s9, s10, s11, s12, s13, s14, s15, s16, s17, s18] := by
  simp only [S_law_4, wSetO, wLst, wNil, List.getElem?_cons_zero, List.getElem?_cons_succ, List.set_cons_zero, List.set_cons_succ, List.map_cons, List.map_nil, List.cons_append, List.nil_append, List.length_cons, List.length_nil, List.replicate, Option.some.injEq, Slot.val.injEq, Slot.own.injEq, D.lst.injEq, exists_eq_left', exists_eq_left, exists_eq', true_and, and_true, Nat.reduceAdd, Nat.reduceSub, Nat.reduceLeDiff, Bool.false_eq_true, if_true, if_false, ↓reduceIte, Int.reduceMul, Int.reduceAdd, Int.reduceSub, Int.reduceNeg, Int.reduceLT, Int.reduceLE, Int.reduceEq, Nat.reduceMul, Nat.reduceLT, String.reduceEq, String.reduceNe, Int.reduceToNat, reduceCtorEq, Bool.not_true, Bool.not_false, Bool.true_or, Bool.or_true, Bool.false_or, Bool.or_false, Bool.true_and, Bool.and_true, Bool.false_and, Bool.and_false, Bool.not_eq_true', decide_eq_true_eq, decide_eq_false_iff_not, not_true_eq_false, not_false_eq_true]
  exact h
def mvd (m p : Nat) (c : Rat) (r : List Rat) : List Rat := (List.range m).map fun k => if k = p then at_ r k + c else at_ r k
theorem rq_s40 {M N : Nat} {q : Rat} (h : Rq M N q) (hM : M < 2 ^ 20) (hN : N < 2 ^ 20) : Sz 40 q := (h.sz (n := 20) hN hM (by omega)).mono (by omega)
theorem st_5_0 (A : AEnds) (S : St T U m o p c b) {r : List Rat} (hr : r ∈ T) {s0 s1 s3 s4 s5 s8 s9 s11 s12 s13 s14 s15 s16 s17 s18 : Slot} (h : A.nx [s0, s1, .val (.int (m : Nat)), s3, s4, s5, .val (.int (p : Nat)), .val (fr c), s8, s9, .val (rowD r), .val (rowD (mvd m p c r)), s12, s13, s14, s15, s16, s17, s18]) : S_law_5_0 A [s0, s1, .val (.int (m : Nat)), s3, s4, s5, .val (.int (p : Nat)), .val (fr c), s8, s9, .val (rowD r), s11, s12, s13, s14, s15, s16, s17, s18] := by
  have m4 := S.tT.m4
  simp only [S_law_5_0, wSet, wLc, wRng1, wCons, wNil, wVar, wipeE, List.getElem?_cons_zero, List.getElem?_cons_succ, List.set_cons_zero, List.set_cons_succ, List.map_cons, List.map_nil, List.cons_append, List.nil_append, List.length_cons, List.length_nil, List.replicate, Option.some.injEq, Slot.val.injEq, Slot.own.injEq, D.lst.injEq, exists_eq_left', exists_eq_left, exists_eq', true_and, and_true, Nat.reduceAdd, Nat.reduceSub, Nat.reduceLeDiff, Bool.false_eq_true, if_true, if_false, ↓reduceIte, Int.reduceMul, Int.reduceAdd, Int.reduceSub, Int.reduceNeg, Int.reduceLT, Int.reduceLE, Int.reduceEq, Nat.reduceMul, Nat.reduceLT, String.reduceEq, String.reduceNe, Int.reduceToNat, reduceCtorEq, Bool.not_true, Bool.not_false, Bool.true_or, Bool.or_true, Bool.false_or, Bool.or_false, Bool.true_and, Bool.and_true, Bool.false_and, Bool.and_false, Bool.not_eq_true', decide_eq_true_eq, decide_eq_false_iff_not, not_true_eq_false, not_false_eq_true]
  refine ⟨by omega, ?_⟩
  have e : rngD 0 m = (List.range m).map nD := rng_nD _
  rw [Int.toNat_natCast, e]
  refine comp_map (k := nD) (g := fun k => fr (if k = p then at_ r k + c else at_ r k)) (List.range m) [] _ (by simp; omega) (fun k hk P pp => ?_) ?_
  · have hk := List.mem_range.mp hk
    have i1 : ∀ Q : D → Prop, dIx (rowD r) (.int (k : Nat)) Q = Q (fr (at_ r k)) := fun Q => ix_row (by rw [S.tT.len r hr]; exact hk) Q
    have z1 := rq_s40 (S.at_q hr hk) (by omega) (by omega)
    have z2 := rq_s40 S.cc (by omega) (by omega)
    have d1 : deq (.int (k : Nat)) (.int (p : Nat)) = decide (k = p) := deq_nD k p
    simp only [wBind, bindT, wIf, wTest, wBin, wCall, wCons, wNil, wVar, List.getElem?_cons_zero, List.getElem?_cons_succ, List.set_cons_zero, List.set_cons_succ, List.map_cons, List.map_nil, List.cons_append, List.nil_append, List.length_cons, List.length_nil, List.replicate, Option.some.injEq, Slot.val.injEq, Slot.own.injEq, D.lst.injEq, exists_eq_left', exists_eq_left, exists_eq', true_and, and_true, Nat.reduceAdd, Nat.reduceSub, Nat.reduceLeDiff, Bool.false_eq_true, if_true, if_false, ↓reduceIte, Int.reduceMul, Int.reduceAdd, Int.reduceSub, Int.reduceNeg, Int.reduceLT, Int.reduceLE, Int.reduceEq, Nat.reduceMul, Nat.reduceLT, String.reduceEq, String.reduceNe, Int.reduceToNat, reduceCtorEq, Bool.not_true, Bool.not_false, Bool.true_or, Bool.or_true, Bool.false_or, Bool.or_false, Bool.true_and, Bool.and_true, Bool.false_and, Bool.and_false, Bool.not_eq_true', decide_eq_true_eq, decide_eq_false_iff_not, not_true_eq_false, not_false_eq_true, nD, dEq, plain_int, d1, dBool, i1]
    by_cases e : k = p
    · rw [if_pos e] at pp ⊢
      rw [cs_add z1 z2]
      exact pp
    · rw [if_neg e] at pp ⊢
      exact pp
  · have e : D.lst ([] ++ (List.range m).map (fun k => fr (if k = p then at_ r k + c else at_ r k))) = rowD (mvd m p c r) := by unfold rowD mvd; rw [List.map_map]; rfl
    rw [e]
    exact h
theorem mvd_at {k : Nat} (hk : k < m) (r : List Rat) : at_ (mvd m p c r) k = if k = p then at_ r k + c else at_ r k := at_map (f := fun k => if k = p then at_ r k + c else at_ r k) (by simp [hk])
theorem st_5_1 (A : AEnds) (S : St T U m o p c b) {r : List Rat} (hr : r ∈ T) {acc : List (List Rat)} (ha : acc.length ≤ 100) {s0 s1 s2 s3 s5 s6 s7 s10 s12 s13 s14 s15 s16 s17 s18 : Slot} (h : A.nx [s0, s1, s2, s3, .val (.lst (o.map nD)), s5, s6, s7, .val (fr b), .own (.lst ((acc ++ [phi o p c b r]).map rowD)), s10, .val (rowD (mvd m p c r)), s12, s13, s14, s15, s16, s17, s18]) : S_law_5_1 A [s0, s1, s2, s3, .val (.lst (o.map nD)), s5, s6, s7, .val (fr b), .own (.lst (acc.map rowD)), s10, .val (rowD (mvd m p c r)), s12, s13, s14, s15, s16, s17, s18] := by
  have m4 := S.tT.m4
  simp only [S_law_5_1, wMut, wLc, wItems, wCons, wNil, wVar, wipeE, List.getElem?_cons_zero, List.getElem?_cons_succ, List.set_cons_zero, List.set_cons_succ, List.map_cons, List.map_nil, List.cons_append, List.nil_append, List.length_cons, List.length_nil, List.replicate, Option.some.injEq, Slot.val.injEq, Slot.own.injEq, D.lst.injEq, exists_eq_left', exists_eq_left, exists_eq', true_and, and_true, Nat.reduceAdd, Nat.reduceSub, Nat.reduceLeDiff, Bool.false_eq_true, if_true, if_false, ↓reduceIte, Int.reduceMul, Int.reduceAdd, Int.reduceSub, Int.reduceNeg, Int.reduceLT, Int.reduceLE, Int.reduceEq, Nat.reduceMul, Nat.reduceLT, String.reduceEq, String.reduceNe, Int.reduceToNat, reduceCtorEq, Bool.not_true, Bool.not_false, Bool.true_or, Bool.or_true, Bool.false_or, Bool.or_false, Bool.true_and, Bool.and_true, Bool.false_and, Bool.and_false, Bool.not_eq_true', decide_eq_true_eq, decide_eq_false_iff_not, not_true_eq_false, not_false_eq_true]
  refine comp_map (k := nD) (g := fun k => fr ((if k = p then at_ r k + c else at_ r k) * b)) o [] _ (by simp [S.olen]; omega) (fun k hk P pp => ?_) ?_
  · have hk := S.olt hk
    have i1 : ∀ Q : D → Prop, dIx (rowD (mvd m p c r)) (.int (k : Nat)) Q = Q (fr (if k = p then at_ r k + c else at_ r k)) := fun Q => by rw [ix_row (by simp [mvd]; exact hk) Q, mvd_at hk]
    have z1 := rq_s40 (S.mq hr hk) (by omega) (by omega)
    have z2 := rq_s40 S.bb (by omega) (by omega)
    simp only [wBind, bindT, wBin, wCall, wCons, wNil, wVar, List.getElem?_cons_zero, List.getElem?_cons_succ, List.set_cons_zero, List.set_cons_succ, List.map_cons, List.map_nil, List.cons_append, List.nil_append, List.length_cons, List.length_nil, List.replicate, Option.some.injEq, Slot.val.injEq, Slot.own.injEq, D.lst.injEq, exists_eq_left', exists_eq_left, exists_eq', true_and, and_true, Nat.reduceAdd, Nat.reduceSub, Nat.reduceLeDiff, Bool.false_eq_true, if_true, if_false, ↓reduceIte, Int.reduceMul, Int.reduceAdd, Int.reduceSub, Int.reduceNeg, Int.reduceLT, Int.reduceLE, Int.reduceEq, Nat.reduceMul, Nat.reduceLT, String.reduceEq, String.reduceNe, Int.reduceToNat, reduceCtorEq, Bool.not_true, Bool.not_false, Bool.true_or, Bool.or_true, Bool.false_or, Bool.or_false, Bool.true_and, Bool.and_true, Bool.false_and, Bool.and_false, Bool.not_eq_true', decide_eq_true_eq, decide_eq_false_iff_not, not_true_eq_false, not_false_eq_true, nD, i1]
    rw [cs_mul z1 z2]
    exact pp
  · have e : D.lst ([] ++ o.map (fun k => fr ((if k = p then at_ r k + c else at_ r k) * b))) = rowD (phi o p c b r) := by unfold rowD phi; rw [List.map_map]; rfl
    rw [e]
    simp only [mAppend, List.length_map]
    refine ⟨by omega, ?_⟩
    rw [List.map_append] at h
    exact h
theorem st5_loop (A : AEnds) (S : St T U m o p c b) {s0 s1 s3 s5 s13 s14 s15 s16 s17 s18 : Slot} : ∀ (V acc : List (List Rat)) (s10 s11 s12 : Slot), (∀ r ∈ V, r ∈ T) → acc.length + V.length ≤ 100 → (∀ s10 s11 s12 : Slot, A.nx [s0, s1, .val (.int (m : Nat)), s3, .val (.lst (o.map nD)), s5, .val (.int (p : Nat)), .val (fr c), .val (fr b), .own (.lst ((acc ++ V.map (phi o p c b)).map rowD)), s10, s11, s12, s13, s14, s15, s16, s17, s18]) →
    wForL (.name 10) B_law_5 (V.map rowD) A [s0, s1, .val (.int (m : Nat)), s3, .val (.lst (o.map nD)), s5, .val (.int (p : Nat)), .val (fr c), .val (fr b), .own (.lst (acc.map rowD)), s10, s11, s12, s13, s14, s15, s16, s17, s18]
  | [], acc, s10, s11, s12, _, _, q => by
    have := q s10 s11 s12
    rw [List.map_nil, List.append_nil] at this
    exact this
  | r :: V, acc, s10, s11, s12, h, l, q => by
    have hr := h r List.mem_cons_self
    simp only [List.length_cons] at l
    rw [List.map_cons]
    unfold wForL
    simp only [wBind, bindT, List.getElem?_cons_zero, List.getElem?_cons_succ, List.set_cons_zero, List.set_cons_succ, List.map_cons, List.map_nil, List.cons_append, List.nil_append, List.length_cons, List.length_nil, List.replicate, Option.some.injEq, Slot.val.injEq, Slot.own.injEq, D.lst.injEq, exists_eq_left', exists_eq_left, exists_eq', true_and, and_true, Nat.reduceAdd, Nat.reduceSub, Nat.reduceLeDiff, Bool.false_eq_true, if_true, if_false, ↓reduceIte, Int.reduceMul, Int.reduceAdd, Int.reduceSub, Int.reduceNeg, Int.reduceLT, Int.reduceLE, Int.reduceEq, Nat.reduceMul, Nat.reduceLT, String.reduceEq, String.reduceNe, Int.reduceToNat, reduceCtorEq, Bool.not_true, Bool.not_false, Bool.true_or, Bool.or_true, Bool.false_or, Bool.or_false, Bool.true_and, Bool.and_true, Bool.false_and, Bool.and_false, Bool.not_eq_true', decide_eq_true_eq, decide_eq_false_iff_not, not_true_eq_false, not_false_eq_true]
    show wSeq S_law_5_0 S_law_5_1 _ _
    unfold wSeq
    refine st_5_0 _ S hr (st_5_1 _ S hr (by omega) ?_)
    refine st5_loop A S V (acc ++ [phi o p c b r]) _ _ _ (fun x hx => h x (List.mem_cons_of_mem _ hx)) (by simp; omega) fun s10 s11 s12 => ?_
    have := q s10 s11 s12
    rw [List.append_assoc]
    exact this
theorem st_5 (A : AEnds) (S : St T U m o p c b) {s0 s1 s3 s10 s11 s12 s13 s14 s15 s16 s17 s18 : Slot} (h : ∀ s10 s11 s12 : Slot, A.nx [s0, s1, .val (.int (m : Nat)), s3, .val (.lst (o.map nD)), .val (tabD U), .val (.int (p : Nat)), .val (fr c), .val (fr b), .own (tabD (U.map (phi o p c b))), s10, s11, s12, s13, s14, s15, s16, s17, s18]) : S_law_5 A [s0, s1, .val (.int (m : Nat)), s3, .val (.lst (o.map nD)), .val (tabD U), .val (.int (p : Nat)), .val (fr c), .val (fr b), .own (.lst []), s10, s11, s12, s13, s14, s15, s16, s17, s18] := by
  have few := S.tT.few
  have key := st5_loop A S (s0 := s0) (s1 := s1) (s3 := s3) (s5 := .val (tabD U)) (s13 := s13) (s14 := s14) (s15 := s15) (s16 := s16) (s17 := s17) (s18 := s18) U [] s10 s11 s12 (fun r hr => S.ul hr) (by simp [S.uU.length_eq]; omega) h
  unfold S_law_5
  simp only [wFor, wItems, wVar, List.getElem?_cons_zero, List.getElem?_cons_succ, List.set_cons_zero, List.set_cons_succ, List.map_cons, List.map_nil, List.cons_append, List.nil_append, List.length_cons, List.length_nil, List.replicate, Option.some.injEq, Slot.val.injEq, Slot.own.injEq, D.lst.injEq, exists_eq_left', exists_eq_left, exists_eq', true_and, and_true, Nat.reduceAdd, Nat.reduceSub, Nat.reduceLeDiff, Bool.false_eq_true, if_true, if_false, ↓reduceIte, Int.reduceMul, Int.reduceAdd, Int.reduceSub, Int.reduceNeg, Int.reduceLT, Int.reduceLE, Int.reduceEq, Nat.reduceMul, Nat.reduceLT, String.reduceEq, String.reduceNe, Int.reduceToNat, reduceCtorEq, Bool.not_true, Bool.not_false, Bool.true_or, Bool.or_true, Bool.false_or, Bool.or_false, Bool.true_and, Bool.and_true, Bool.false_and, Bool.and_false, Bool.not_eq_true', decide_eq_true_eq, decide_eq_false_iff_not, not_true_eq_false, not_false_eq_true]
  unfold tabD at key ⊢
  simp only [List.getElem?_cons_zero, List.getElem?_cons_succ, List.set_cons_zero, List.set_cons_succ, List.map_cons, List.map_nil, List.cons_append, List.nil_append, List.length_cons, List.length_nil, List.replicate, Option.some.injEq, Slot.val.injEq, Slot.own.injEq, D.lst.injEq, exists_eq_left', exists_eq_left, exists_eq', true_and, and_true, Nat.reduceAdd, Nat.reduceSub, Nat.reduceLeDiff, Bool.false_eq_true, if_true, if_false, ↓reduceIte, Int.reduceMul, Int.reduceAdd, Int.reduceSub, Int.reduceNeg, Int.reduceLT, Int.reduceLE, Int.reduceEq, Nat.reduceMul, Nat.reduceLT, String.reduceEq, String.reduceNe, Int.reduceToNat, reduceCtorEq, Bool.not_true, Bool.not_false, Bool.true_or, Bool.or_true, Bool.false_or, Bool.or_false, Bool.true_and, Bool.and_true, Bool.false_and, Bool.and_false, Bool.not_eq_true', decide_eq_true_eq, decide_eq_false_iff_not, not_true_eq_false, not_false_eq_true]
  exact key
theorem st_6 (A : AEnds) (F : FS) {d : D} {s0 s1 s2 s3 s4 s5 s6 s7 s8 s10 s11 s12 s13 s14 s15 s16 s17 s18 : Slot} (h : F A [s0, s1, s2, s3, s4, s5, s6, s7, s8, .val d, s10, s11, s12, s13, s14, s15, s16, s17, s18]) : wSeq (wFrz 9) F A [s0, s1, s2, s3, s4, s5, s6, s7, s8, .own d, s10, s11, s12, s13, s14, s15, s16, s17, s18] := by
  simp only [wSeq, wFrz, List.getElem?_cons_zero, List.getElem?_cons_succ, List.set_cons_zero, List.set_cons_succ, List.map_cons, List.map_nil, List.cons_append, List.nil_append, List.length_cons, List.length_nil, List.replicate, Option.some.injEq, Slot.val.injEq, Slot.own.injEq, D.lst.injEq, exists_eq_left', exists_eq_left, exists_eq', true_and, and_true, Nat.reduceAdd, Nat.reduceSub, Nat.reduceLeDiff, Bool.false_eq_true, if_true, if_false, ↓reduceIte, Int.reduceMul, Int.reduceAdd, Int.reduceSub, Int.reduceNeg, Int.reduceLT, Int.reduceLE, Int.reduceEq, Nat.reduceMul, Nat.reduceLT, String.reduceEq, String.reduceNe, Int.reduceToNat, reduceCtorEq, Bool.not_true, Bool.not_false, Bool.true_or, Bool.or_true, Bool.false_or, Bool.or_false, Bool.true_and, Bool.and_true, Bool.false_and, Bool.and_false, Bool.not_eq_true', decide_eq_true_eq, decide_eq_false_iff_not, not_true_eq_false, not_false_eq_true]
  exact h
theorem st_7 (A : AEnds) (S : St T U m o p c b) {s0 s1 s2 s4 s5 s6 s7 s8 s10 s11 s12 s13 s14 s15 s16 s17 s18 : Slot} (h : A.nx [s0, s1, s2, .val (tabD T), s4, s5, s6, s7, s8, .val (tabD (U.map (phi o p c b))), s10, s11, s12, s13, s14, s15, s16, s17, s18]) : S_law_7 A [s0, s1, s2, .val (tabD T), s4, s5, s6, s7, s8, .val (tabD (U.map (phi o p c b))), s10, s11, s12, s13, s14, s15, s16, s17, s18] := by
  simp only [S_law_7, wIfS, wTest, wBin, wCall, wCons, wNil, wVar, List.getElem?_cons_zero, List.getElem?_cons_succ, List.set_cons_zero, List.set_cons_succ, List.map_cons, List.map_nil, List.cons_append, List.nil_append, List.length_cons, List.length_nil, List.replicate, Option.some.injEq, Slot.val.injEq, Slot.own.injEq, D.lst.injEq, exists_eq_left', exists_eq_left, exists_eq', true_and, and_true, Nat.reduceAdd, Nat.reduceSub, Nat.reduceLeDiff, Bool.false_eq_true, if_true, if_false, ↓reduceIte, Int.reduceMul, Int.reduceAdd, Int.reduceSub, Int.reduceNeg, Int.reduceLT, Int.reduceLE, Int.reduceEq, Nat.reduceMul, Nat.reduceLT, String.reduceEq, String.reduceNe, Int.reduceToNat, reduceCtorEq, Bool.not_true, Bool.not_false, Bool.true_or, Bool.or_true, Bool.false_or, Bool.or_false, Bool.true_and, Bool.and_true, Bool.false_and, Bool.and_false, Bool.not_eq_true', decide_eq_true_eq, decide_eq_false_iff_not, not_true_eq_false, not_false_eq_true]
  refine ci_reliable S.tb.1 (ci_reliable S.tT.tb ?_)
  rw [S.tb.2, S.par, S.vtot, relD_mul S.b0, S.tT.wid]
  simp only [dNe, plain_rel, deq_rel, dBool, wRet, wC, wNext, List.getElem?_cons_zero, List.getElem?_cons_succ, List.set_cons_zero, List.set_cons_succ, List.map_cons, List.map_nil, List.cons_append, List.nil_append, List.length_cons, List.length_nil, List.replicate, Option.some.injEq, Slot.val.injEq, Slot.own.injEq, D.lst.injEq, exists_eq_left', exists_eq_left, exists_eq', true_and, and_true, Nat.reduceAdd, Nat.reduceSub, Nat.reduceLeDiff, Bool.false_eq_true, if_true, if_false, ↓reduceIte, Int.reduceMul, Int.reduceAdd, Int.reduceSub, Int.reduceNeg, Int.reduceLT, Int.reduceLE, Int.reduceEq, Nat.reduceMul, Nat.reduceLT, String.reduceEq, String.reduceNe, Int.reduceToNat, reduceCtorEq, Bool.not_true, Bool.not_false, Bool.true_or, Bool.or_true, Bool.false_or, Bool.or_false, Bool.true_and, Bool.and_true, Bool.false_and, Bool.and_false, Bool.not_eq_true', decide_eq_true_eq, decide_eq_false_iff_not, not_true_eq_false, not_false_eq_true]
  exact h
theorem index_of (S : St T U m o p c b) {k : Nat} (hk : k < m) : ∃ j : Nat, o[j]? = some k ∧ j < m ∧ ∀ Q : D → Prop, Q (.int (j : Nat)) → bIndex [.lst (o.map nD), .int (k : Nat)] Q := by
  have mem : k ∈ o := (S.oo.mem_iff).mpr (List.mem_range.mpr hk)
  obtain ⟨j, e⟩ : ∃ j, (o.map nD).findIdx? (fun z => deq z (.int (k : Nat))) = some j := by
    rw [← Option.isSome_iff_exists, List.findIdx?_isSome, List.any_eq_true]
    exact ⟨nD k, List.mem_map.mpr ⟨k, mem, rfl⟩, by have := deq_nD k k; simp only [nD] at this ⊢; rw [this]; simp⟩
  have e' := e
  rw [List.findIdx?_eq_some_iff_getElem] at e'
  obtain ⟨h1, h2, _⟩ := e'
  have hj : j < o.length := by simpa using h1
  have h3 : o[j] = k := by
    have : deq (nD o[j]) (nD k) = true := by simpa [nD] using h2
    rw [deq_nD] at this
    simpa using this
  refine ⟨j, by rw [List.getElem?_eq_getElem hj, h3], by rw [← S.olen]; exact hj, fun Q q => ⟨rfl, flat_nD o, j, e, q⟩⟩
theorem st_8_0 (A : AEnds) (S : St T U m o p c b) {k : Nat} (hk : k < m) {s0 s1 s2 s5 s6 s7 s8 s10 s11 s13 s14 s15 s16 s17 s18 : Slot} (h : A.nx [s0, s1, s2, .val (tabD T), .val (.lst (o.map nD)), s5, s6, s7, s8, .val (tabD (U.map (phi o p c b))), s10, s11, .val (.int (k : Nat)), s13, s14, s15, s16, s17, s18]) : S_law_8_0 A [s0, s1, s2, .val (tabD T), .val (.lst (o.map nD)), s5, s6, s7, s8, .val (tabD (U.map (phi o p c b))), s10, s11, .val (.int (k : Nat)), s13, s14, s15, s16, s17, s18] := by
  obtain ⟨j, oj, jm, ix⟩ := index_of S hk
  have m2 := S.tT.m2
  have w1 := S.tb.2
  have w2 := S.tT.wid
  simp only [S_law_8_0, wIfS, wOr, wTest, wBin, wLm, wCall, wCons, wNil, wVar, List.getElem?_cons_zero, List.getElem?_cons_succ, List.set_cons_zero, List.set_cons_succ, List.map_cons, List.map_nil, List.cons_append, List.nil_append, List.length_cons, List.length_nil, List.replicate, Option.some.injEq, Slot.val.injEq, Slot.own.injEq, D.lst.injEq, exists_eq_left', exists_eq_left, exists_eq', true_and, and_true, Nat.reduceAdd, Nat.reduceSub, Nat.reduceLeDiff, Bool.false_eq_true, if_true, if_false, ↓reduceIte, Int.reduceMul, Int.reduceAdd, Int.reduceSub, Int.reduceNeg, Int.reduceLT, Int.reduceLE, Int.reduceEq, Nat.reduceMul, Nat.reduceLT, String.reduceEq, String.reduceNe, Int.reduceToNat, reduceCtorEq, Bool.not_true, Bool.not_false, Bool.true_or, Bool.or_true, Bool.false_or, Bool.or_false, Bool.true_and, Bool.and_true, Bool.false_and, Bool.and_false, Bool.not_eq_true', decide_eq_true_eq, decide_eq_false_iff_not, not_true_eq_false, not_false_eq_true]
  refine ix _ (ci_without S.tb.1 (by rw [w1]; exact jm) (by rw [w1]; exact m2) (ci_without S.tT.tb (by rw [w2]; exact hk) (by rw [w2]; exact m2) ?_))
  have e1 : b * b * parV T - b * b * varR (colL T k) = b * b * (parV T - varR (colL T k)) := by grind
  rw [w1, w2, S.par, S.vcol oj, S.vrst oj, e1, relD_mul S.b0]
  simp only [dNe, plain_rel, deq_rel, dBool, List.getElem?_cons_zero, List.getElem?_cons_succ, List.set_cons_zero, List.set_cons_succ, List.map_cons, List.map_nil, List.cons_append, List.nil_append, List.length_cons, List.length_nil, List.replicate, Option.some.injEq, Slot.val.injEq, Slot.own.injEq, D.lst.injEq, exists_eq_left', exists_eq_left, exists_eq', true_and, and_true, Nat.reduceAdd, Nat.reduceSub, Nat.reduceLeDiff, Bool.false_eq_true, if_true, if_false, ↓reduceIte, Int.reduceMul, Int.reduceAdd, Int.reduceSub, Int.reduceNeg, Int.reduceLT, Int.reduceLE, Int.reduceEq, Nat.reduceMul, Nat.reduceLT, String.reduceEq, String.reduceNe, Int.reduceToNat, reduceCtorEq, Bool.not_true, Bool.not_false, Bool.true_or, Bool.or_true, Bool.false_or, Bool.or_false, Bool.true_and, Bool.and_true, Bool.false_and, Bool.and_false, Bool.not_eq_true', decide_eq_true_eq, decide_eq_false_iff_not, not_true_eq_false, not_false_eq_true]
  refine ix _ (ci_sharp S.tb.1 (by rw [w1]; exact jm) (ci_sharp S.tT.tb (by rw [w2]; exact hk) ?_))
  rw [S.shp oj]
  simp only [dNe, plain_shp, deq_shp, dBool, wRet, wC, wNext, List.getElem?_cons_zero, List.getElem?_cons_succ, List.set_cons_zero, List.set_cons_succ, List.map_cons, List.map_nil, List.cons_append, List.nil_append, List.length_cons, List.length_nil, List.replicate, Option.some.injEq, Slot.val.injEq, Slot.own.injEq, D.lst.injEq, exists_eq_left', exists_eq_left, exists_eq', true_and, and_true, Nat.reduceAdd, Nat.reduceSub, Nat.reduceLeDiff, Bool.false_eq_true, if_true, if_false, ↓reduceIte, Int.reduceMul, Int.reduceAdd, Int.reduceSub, Int.reduceNeg, Int.reduceLT, Int.reduceLE, Int.reduceEq, Nat.reduceMul, Nat.reduceLT, String.reduceEq, String.reduceNe, Int.reduceToNat, reduceCtorEq, Bool.not_true, Bool.not_false, Bool.true_or, Bool.or_true, Bool.false_or, Bool.or_false, Bool.true_and, Bool.and_true, Bool.false_and, Bool.and_false, Bool.not_eq_true', decide_eq_true_eq, decide_eq_false_iff_not, not_true_eq_false, not_false_eq_true]
  exact h
theorem st8_loop (A : AEnds) (S : St T U m o p c b) {s0 s1 s2 s5 s6 s7 s8 s10 s11 s13 s14 s15 s16 s17 s18 : Slot} : ∀ (ks : List Nat) (s12 : Slot), (∀ k ∈ ks, k < m) → (∀ s12 : Slot, A.nx [s0, s1, s2, .val (tabD T), .val (.lst (o.map nD)), s5, s6, s7, s8, .val (tabD (U.map (phi o p c b))), s10, s11, s12, s13, s14, s15, s16, s17, s18]) →
    wForL (.name 12) B_law_8 (ks.map nD) A [s0, s1, s2, .val (tabD T), .val (.lst (o.map nD)), s5, s6, s7, s8, .val (tabD (U.map (phi o p c b))), s10, s11, s12, s13, s14, s15, s16, s17, s18]
  | [], s12, _, q => q s12
  | k :: ks, s12, h, q => by
    rw [List.map_cons]
    unfold wForL
    simp only [wBind, bindT, List.getElem?_cons_zero, List.getElem?_cons_succ, List.set_cons_zero, List.set_cons_succ, List.map_cons, List.map_nil, List.cons_append, List.nil_append, List.length_cons, List.length_nil, List.replicate, Option.some.injEq, Slot.val.injEq, Slot.own.injEq, D.lst.injEq, exists_eq_left', exists_eq_left, exists_eq', true_and, and_true, Nat.reduceAdd, Nat.reduceSub, Nat.reduceLeDiff, Bool.false_eq_true, if_true, if_false, ↓reduceIte, Int.reduceMul, Int.reduceAdd, Int.reduceSub, Int.reduceNeg, Int.reduceLT, Int.reduceLE, Int.reduceEq, Nat.reduceMul, Nat.reduceLT, String.reduceEq, String.reduceNe, Int.reduceToNat, reduceCtorEq, Bool.not_true, Bool.not_false, Bool.true_or, Bool.or_true, Bool.false_or, Bool.or_false, Bool.true_and, Bool.and_true, Bool.false_and, Bool.and_false, Bool.not_eq_true', decide_eq_true_eq, decide_eq_false_iff_not, not_true_eq_false, not_false_eq_true]
    exact st_8_0 _ S (h k List.mem_cons_self) (st8_loop A S ks _ (fun x hx => h x (List.mem_cons_of_mem _ hx)) q)
theorem st_8 (A : AEnds) (S : St T U m o p c b) {s0 s1 s5 s6 s7 s8 s10 s11 s12 s13 s14 s15 s16 s17 s18 : Slot} (h : ∀ s12 : Slot, A.nx [s0, s1, .val (.int (m : Nat)), .val (tabD T), .val (.lst (o.map nD)), s5, s6, s7, s8, .val (tabD (U.map (phi o p c b))), s10, s11, s12, s13, s14, s15, s16, s17, s18]) : S_law_8 A [s0, s1, .val (.int (m : Nat)), .val (tabD T), .val (.lst (o.map nD)), s5, s6, s7, s8, .val (tabD (U.map (phi o p c b))), s10, s11, s12, s13, s14, s15, s16, s17, s18] := by
  have m4 := S.tT.m4
  have key := st8_loop A S (s0 := s0) (s1 := s1) (s2 := .val (.int (m : Nat))) (s5 := s5) (s6 := s6) (s7 := s7) (s8 := s8) (s10 := s10) (s11 := s11) (s13 := s13) (s14 := s14) (s15 := s15) (s16 := s16) (s17 := s17) (s18 := s18) (List.range m) s12 (fun k hk => List.mem_range.mp hk) h
  simp only [S_law_8, wFor, wRng1, wCons, wNil, wVar, List.getElem?_cons_zero, List.getElem?_cons_succ, List.set_cons_zero, List.set_cons_succ, List.map_cons, List.map_nil, List.cons_append, List.nil_append, List.length_cons, List.length_nil, List.replicate, Option.some.injEq, Slot.val.injEq, Slot.own.injEq, D.lst.injEq, exists_eq_left', exists_eq_left, exists_eq', true_and, and_true, Nat.reduceAdd, Nat.reduceSub, Nat.reduceLeDiff, Bool.false_eq_true, if_true, if_false, ↓reduceIte, Int.reduceMul, Int.reduceAdd, Int.reduceSub, Int.reduceNeg, Int.reduceLT, Int.reduceLE, Int.reduceEq, Nat.reduceMul, Nat.reduceLT, String.reduceEq, String.reduceNe, Int.reduceToNat, reduceCtorEq, Bool.not_true, Bool.not_false, Bool.true_or, Bool.or_true, Bool.false_or, Bool.or_false, Bool.true_and, Bool.and_true, Bool.false_and, Bool.and_false, Bool.not_eq_true', decide_eq_true_eq, decide_eq_false_iff_not, not_true_eq_false, not_false_eq_true, Int.toNat_natCast]
  refine ⟨by omega, ?_⟩
  have e : rngD 0 m = (List.range m).map nD := rng_nD _
  rw [e]
  exact key
theorem st_9 (A : AEnds) (hT : Lt T m) {s0 s1 s2 s4 s5 s6 s7 s8 s9 s10 s11 s12 s13 s14 s15 s16 s17 s18 : Slot} (h : A.nx [s0, s1, s2, .val (tabD T), s4, s5, s6, s7, s8, s9, s10, s11, s12, .val (rowD (T.map evR)), .val (rowD (T.map odR)), s15, s16, s17, s18]) : S_law_9 A [s0, s1, s2, .val (tabD T), s4, s5, s6, s7, s8, s9, s10, s11, s12, s13, s14, s15, s16, s17, s18] := by
  simp only [S_law_9, wAsg, wCall, wCons, wNil, wVar, List.getElem?_cons_zero, List.getElem?_cons_succ, List.set_cons_zero, List.set_cons_succ, List.map_cons, List.map_nil, List.cons_append, List.nil_append, List.length_cons, List.length_nil, List.replicate, Option.some.injEq, Slot.val.injEq, Slot.own.injEq, D.lst.injEq, exists_eq_left', exists_eq_left, exists_eq', true_and, and_true, Nat.reduceAdd, Nat.reduceSub, Nat.reduceLeDiff, Bool.false_eq_true, if_true, if_false, ↓reduceIte, Int.reduceMul, Int.reduceAdd, Int.reduceSub, Int.reduceNeg, Int.reduceLT, Int.reduceLE, Int.reduceEq, Nat.reduceMul, Nat.reduceLT, String.reduceEq, String.reduceNe, Int.reduceToNat, reduceCtorEq, Bool.not_true, Bool.not_false, Bool.true_or, Bool.or_true, Bool.false_or, Bool.or_false, Bool.true_and, Bool.and_true, Bool.false_and, Bool.and_false, Bool.not_eq_true', decide_eq_true_eq, decide_eq_false_iff_not, not_true_eq_false, not_false_eq_true, cl_halves, hT.tb, wBind, bindT, setAll]
  exact h
theorem half_add {r : List Rat} (h2 : 2 ≤ r.length) (h4 : r.length ≤ 4) : evR r + odR r = sumR r := by
  match r, h2, h4 with
  | [a, b], _, _ => simp [evR, odR, at_, sumR, List.range_succ]; try grind
  | [a, b, c], _, _ => simp [evR, odR, at_, sumR, List.range_succ]; try grind
  | [a, b, c, d], _, _ => simp [evR, odR, at_, sumR, List.range_succ]; try grind
  | [], h, _ => simp at h
  | [a], h, _ => simp at h
  | a :: b :: c :: d :: e :: r, _, h => simp at h
theorem half_q {r : List Rat} (h : ∀ x ∈ r, Rq 12 48 x) (h4 : r.length ≤ 4) : Rq 12 192 (evR r) ∧ Rq 12 192 (odR r) := by
  constructor
  · have := rq_sum (M := 12) (N := 48) (l := (List.range ((r.length + 1) / 2)).map fun i => at_ r (2 * i)) fun x hx => by
      obtain ⟨i, hi, rfl⟩ := List.mem_map.mp hx
      have := List.mem_range.mp hi
      exact h _ (at_mem (by omega))
    refine this.mono ?_
    simp
    omega
  · have := rq_sum (M := 12) (N := 48) (l := (List.range (r.length / 2)).map fun i => at_ r (2 * i + 1)) fun x hx => by
      obtain ⟨i, hi, rfl⟩ := List.mem_map.mp hx
      have := List.mem_range.mp hi
      exact h _ (at_mem (by omega))
    refine this.mono ?_
    simp
    omega
theorem at_mapT {f : List Rat → Rat} {i : Nat} {r : List Rat} (h : T[i]? = some r) : at_ (T.map f) i = f r := by
  show (T.map f).getD i 0 = _
  rw [List.getD_eq_getElem?_getD, List.getElem?_map, h]
  rfl
theorem st_10 (A : AEnds) (S : St T U m o p c b) {s0 s1 s2 s10 s11 s12 s15 s16 s17 s18 : Slot} (h : A.nx [s0, s1, s2, .val (tabD T), .val (.lst (o.map nD)), .val (tabD U), .val (.int (p : Nat)), .val (fr c), .val (fr b), .val (tabD (U.map (phi o p c b))), s10, s11, s12, .val (rowD (T.map evR)), .val (rowD (T.map odR)), s15, s16, s17, s18]) : S_law_10 A [s0, s1, s2, .val (tabD T), .val (.lst (o.map nD)), .val (tabD U), .val (.int (p : Nat)), .val (fr c), .val (fr b), .val (tabD (U.map (phi o p c b))), s10, s11, s12, .val (rowD (T.map evR)), .val (rowD (T.map odR)), s15, s16, s17, s18] := by
  have few := S.tT.few
  obtain ⟨j, oj, jm, ix⟩ := index_of S S.pp
  simp only [S_law_10, wIfS, wOr, wTest, wBin, wLc, wRng1, wCall, wCons, wNil, wVar, wipeE, List.getElem?_cons_zero, List.getElem?_cons_succ, List.set_cons_zero, List.set_cons_succ, List.map_cons, List.map_nil, List.cons_append, List.nil_append, List.length_cons, List.length_nil, List.replicate, Option.some.injEq, Slot.val.injEq, Slot.own.injEq, D.lst.injEq, exists_eq_left', exists_eq_left, exists_eq', true_and, and_true, Nat.reduceAdd, Nat.reduceSub, Nat.reduceLeDiff, Bool.false_eq_true, if_true, if_false, ↓reduceIte, Int.reduceMul, Int.reduceAdd, Int.reduceSub, Int.reduceNeg, Int.reduceLT, Int.reduceLE, Int.reduceEq, Nat.reduceMul, Nat.reduceLT, String.reduceEq, String.reduceNe, Int.reduceToNat, reduceCtorEq, Bool.not_true, Bool.not_false, Bool.true_or, Bool.or_true, Bool.false_or, Bool.or_false, Bool.true_and, Bool.and_true, Bool.false_and, Bool.and_false, Bool.not_eq_true', decide_eq_true_eq, decide_eq_false_iff_not, not_true_eq_false, not_false_eq_true, len_tab, nD]
  refine ⟨by omega, ?_⟩
  have e : rngD 0 T.length = (List.range T.length).map nD := rng_nD _
  rw [Int.toNat_natCast, e]
  refine comp_map (k := nD) (g := fun i => fr (at_ (T.map evR) i + at_ (T.map odR) i)) (List.range T.length) [] _ (by simp; omega) (fun i hi P pp => ?_) ?_
  · have hi := List.mem_range.mp hi
    have q := half_q (S.tT.q _ (List.getElem_mem hi)) (by rw [S.tT.len _ (List.getElem_mem hi)]; exact S.tT.m4)
    have a1 : at_ (T.map evR) i = evR T[i] := at_mapT (List.getElem?_eq_getElem hi)
    have a2 : at_ (T.map odR) i = odR T[i] := at_mapT (List.getElem?_eq_getElem hi)
    rw [← a1, ← a2] at q
    have z1 := rq_s40 q.1 (by omega) (by omega)
    have z2 := rq_s40 q.2 (by omega) (by omega)
    have i1 : ∀ Q : D → Prop, dIx (rowD (T.map evR)) (.int (i : Nat)) Q = Q (fr (at_ (T.map evR) i)) := fun Q => ix_row (by simpa using hi) Q
    have i2 : ∀ Q : D → Prop, dIx (rowD (T.map odR)) (.int (i : Nat)) Q = Q (fr (at_ (T.map odR) i)) := fun Q => ix_row (by simpa using hi) Q
    simp only [wBind, bindT, wCall, wCons, wNil, wVar, wBin, List.getElem?_cons_zero, List.getElem?_cons_succ, List.set_cons_zero, List.set_cons_succ, List.map_cons, List.map_nil, List.cons_append, List.nil_append, List.length_cons, List.length_nil, List.replicate, Option.some.injEq, Slot.val.injEq, Slot.own.injEq, D.lst.injEq, exists_eq_left', exists_eq_left, exists_eq', true_and, and_true, Nat.reduceAdd, Nat.reduceSub, Nat.reduceLeDiff, Bool.false_eq_true, if_true, if_false, ↓reduceIte, Int.reduceMul, Int.reduceAdd, Int.reduceSub, Int.reduceNeg, Int.reduceLT, Int.reduceLE, Int.reduceEq, Nat.reduceMul, Nat.reduceLT, String.reduceEq, String.reduceNe, Int.reduceToNat, reduceCtorEq, Bool.not_true, Bool.not_false, Bool.true_or, Bool.or_true, Bool.false_or, Bool.or_false, Bool.true_and, Bool.and_true, Bool.false_and, Bool.and_false, Bool.not_eq_true', decide_eq_true_eq, decide_eq_false_iff_not, not_true_eq_false, not_false_eq_true, nD, i1, i2]
    rw [cs_add z1 z2]
    exact pp
  · have e : [] ++ (List.range T.length).map (fun i => fr (at_ (T.map evR) i + at_ (T.map odR) i)) = (totL T).map fr := by
      refine List.ext_getElem (by simp [totL]) fun i h1 h2 => ?_
      have hi : i < T.length := by simpa [totL] using h2
      have a1 : at_ (T.map evR) i = evR T[i] := at_mapT (List.getElem?_eq_getElem hi)
      have a2 : at_ (T.map odR) i = odR T[i] := at_mapT (List.getElem?_eq_getElem hi)
      have s := half_add (r := T[i]) (by rw [S.tT.len _ (List.getElem_mem hi)]; exact S.tT.m2) (by rw [S.tT.len _ (List.getElem_mem hi)]; exact S.tT.m4)
      simp only [List.nil_append, List.getElem_map, List.getElem_range, totL]
      rw [a1, a2, s]
    rw [e]
    have d1 : deqs ((totL T).map fr) ((totL T).map fr) = true := by rw [deqs_frs]; simp
    simp only [cl_totals, S.tT.tb, List.getElem?_cons_zero, List.getElem?_cons_succ, List.set_cons_zero, List.set_cons_succ, List.map_cons, List.map_nil, List.cons_append, List.nil_append, List.length_cons, List.length_nil, List.replicate, Option.some.injEq, Slot.val.injEq, Slot.own.injEq, D.lst.injEq, exists_eq_left', exists_eq_left, exists_eq', true_and, and_true, Nat.reduceAdd, Nat.reduceSub, Nat.reduceLeDiff, Bool.false_eq_true, if_true, if_false, ↓reduceIte, Int.reduceMul, Int.reduceAdd, Int.reduceSub, Int.reduceNeg, Int.reduceLT, Int.reduceLE, Int.reduceEq, Nat.reduceMul, Nat.reduceLT, String.reduceEq, String.reduceNe, Int.reduceToNat, reduceCtorEq, Bool.not_true, Bool.not_false, Bool.true_or, Bool.or_true, Bool.false_or, Bool.or_false, Bool.true_and, Bool.and_true, Bool.false_and, Bool.and_false, Bool.not_eq_true', decide_eq_true_eq, decide_eq_false_iff_not, not_true_eq_false, not_false_eq_true, dNe, plain_lst20, plains_frs19, deq_lst_lst, d1, dBool, wLm, wCons, wNil, wVar]
    refine ix _ ?_
    rw [cl_column, eq_true S.tb.1, S.tb.2, eq_true jm, true_and, true_and]
    simp only [wItems, wVar, List.getElem?_cons_zero, List.getElem?_cons_succ, List.set_cons_zero, List.set_cons_succ, List.map_cons, List.map_nil, List.cons_append, List.nil_append, List.length_cons, List.length_nil, List.replicate, Option.some.injEq, Slot.val.injEq, Slot.own.injEq, D.lst.injEq, exists_eq_left', exists_eq_left, exists_eq', true_and, and_true, Nat.reduceAdd, Nat.reduceSub, Nat.reduceLeDiff, Bool.false_eq_true, if_true, if_false, ↓reduceIte, Int.reduceMul, Int.reduceAdd, Int.reduceSub, Int.reduceNeg, Int.reduceLT, Int.reduceLE, Int.reduceEq, Nat.reduceMul, Nat.reduceLT, String.reduceEq, String.reduceNe, Int.reduceToNat, reduceCtorEq, Bool.not_true, Bool.not_false, Bool.true_or, Bool.or_true, Bool.false_or, Bool.or_false, Bool.true_and, Bool.and_true, Bool.false_and, Bool.and_false, Bool.not_eq_true', decide_eq_true_eq, decide_eq_false_iff_not, not_true_eq_false, not_false_eq_true]
    unfold tabD
    simp only [List.getElem?_cons_zero, List.getElem?_cons_succ, List.set_cons_zero, List.set_cons_succ, List.map_cons, List.map_nil, List.cons_append, List.nil_append, List.length_cons, List.length_nil, List.replicate, Option.some.injEq, Slot.val.injEq, Slot.own.injEq, D.lst.injEq, exists_eq_left', exists_eq_left, exists_eq', true_and, and_true, Nat.reduceAdd, Nat.reduceSub, Nat.reduceLeDiff, Bool.false_eq_true, if_true, if_false, ↓reduceIte, Int.reduceMul, Int.reduceAdd, Int.reduceSub, Int.reduceNeg, Int.reduceLT, Int.reduceLE, Int.reduceEq, Nat.reduceMul, Nat.reduceLT, String.reduceEq, String.reduceNe, Int.reduceToNat, reduceCtorEq, Bool.not_true, Bool.not_false, Bool.true_or, Bool.or_true, Bool.false_or, Bool.or_false, Bool.true_and, Bool.and_true, Bool.false_and, Bool.and_false, Bool.not_eq_true', decide_eq_true_eq, decide_eq_false_iff_not, not_true_eq_false, not_false_eq_true]
    refine comp_map (k := rowD) (g := fun r => fr ((at_ r p + c) * b)) U [] _ (by simp [S.uU.length_eq]; omega) (fun r hr P pp => ?_) ?_
    · have hr := S.ul hr
      have i1 : ∀ Q : D → Prop, dIx (rowD r) (.int (p : Nat)) Q = Q (fr (at_ r p)) := fun Q => ix_row (by rw [S.tT.len r hr]; exact S.pp) Q
      have z1 := rq_s40 (S.at_q hr S.pp) (by omega) (by omega)
      have z2 := rq_s40 S.cc (by omega) (by omega)
      have z3 := rq_s40 ((S.at_q hr S.pp).add S.cc) (by omega) (by omega)
      have z4 := rq_s40 S.bb (by omega) (by omega)
      simp only [wBind, bindT, wCall, wCons, wNil, wVar, wBin, List.getElem?_cons_zero, List.getElem?_cons_succ, List.set_cons_zero, List.set_cons_succ, List.map_cons, List.map_nil, List.cons_append, List.nil_append, List.length_cons, List.length_nil, List.replicate, Option.some.injEq, Slot.val.injEq, Slot.own.injEq, D.lst.injEq, exists_eq_left', exists_eq_left, exists_eq', true_and, and_true, Nat.reduceAdd, Nat.reduceSub, Nat.reduceLeDiff, Bool.false_eq_true, if_true, if_false, ↓reduceIte, Int.reduceMul, Int.reduceAdd, Int.reduceSub, Int.reduceNeg, Int.reduceLT, Int.reduceLE, Int.reduceEq, Nat.reduceMul, Nat.reduceLT, String.reduceEq, String.reduceNe, Int.reduceToNat, reduceCtorEq, Bool.not_true, Bool.not_false, Bool.true_or, Bool.or_true, Bool.false_or, Bool.or_false, Bool.true_and, Bool.and_true, Bool.false_and, Bool.and_false, Bool.not_eq_true', decide_eq_true_eq, decide_eq_false_iff_not, not_true_eq_false, not_false_eq_true, i1]
      rw [cs_add z1 z2, cs_mul z3 z4]
      exact pp
    · have e : [] ++ U.map (fun r => fr ((at_ r p + c) * b)) = (colL (U.map (phi o p c b)) j).map fr := by
        unfold colL
        rw [List.map_map, List.map_map, List.nil_append]
        refine List.map_congr_left fun r _ => ?_
        show fr ((at_ r p + c) * b) = fr (at_ (phi o p c b r) j)
        rw [phi_at oj, if_pos rfl]
        congr 1
        grind
      rw [e]
      have d1 : deqs ((colL (U.map (phi o p c b)) j).map fr) ((colL (U.map (phi o p c b)) j).map fr) = true := by rw [deqs_frs]; simp
      simp only [plain_lst20, plains_frs19, deq_lst_lst, d1, dBool, wRet, wC, wNext, List.getElem?_cons_zero, List.getElem?_cons_succ, List.set_cons_zero, List.set_cons_succ, List.map_cons, List.map_nil, List.cons_append, List.nil_append, List.length_cons, List.length_nil, List.replicate, Option.some.injEq, Slot.val.injEq, Slot.own.injEq, D.lst.injEq, exists_eq_left', exists_eq_left, exists_eq', true_and, and_true, Nat.reduceAdd, Nat.reduceSub, Nat.reduceLeDiff, Bool.false_eq_true, if_true, if_false, ↓reduceIte, Int.reduceMul, Int.reduceAdd, Int.reduceSub, Int.reduceNeg, Int.reduceLT, Int.reduceLE, Int.reduceEq, Nat.reduceMul, Nat.reduceLT, String.reduceEq, String.reduceNe, Int.reduceToNat, reduceCtorEq, Bool.not_true, Bool.not_false, Bool.true_or, Bool.or_true, Bool.false_or, Bool.or_false, Bool.true_and, Bool.and_true, Bool.false_and, Bool.and_false, Bool.not_eq_true', decide_eq_true_eq, decide_eq_false_iff_not, not_true_eq_false, not_false_eq_true]
      exact h
theorem st_11 (A : AEnds) (hT : Lt T m) {s0 s1 s2 s4 s5 s6 s7 s8 s9 s10 s11 s12 s13 s14 s15 s16 s17 s18 : Slot} (h : A.nx [s0, s1, s2, .val (tabD T), s4, s5, s6, s7, s8, s9, s10, s11, s12, s13, s14, .val (relD m (parV T) (varR (totL T))), s16, s17, s18]) : S_law_11 A [s0, s1, s2, .val (tabD T), s4, s5, s6, s7, s8, s9, s10, s11, s12, s13, s14, s15, s16, s17, s18] := by
  simp only [S_law_11, wSet, wCall, wCons, wNil, wVar, List.getElem?_cons_zero, List.getElem?_cons_succ, List.set_cons_zero, List.set_cons_succ, List.map_cons, List.map_nil, List.cons_append, List.nil_append, List.length_cons, List.length_nil, List.replicate, Option.some.injEq, Slot.val.injEq, Slot.own.injEq, D.lst.injEq, exists_eq_left', exists_eq_left, exists_eq', true_and, and_true, Nat.reduceAdd, Nat.reduceSub, Nat.reduceLeDiff, Bool.false_eq_true, if_true, if_false, ↓reduceIte, Int.reduceMul, Int.reduceAdd, Int.reduceSub, Int.reduceNeg, Int.reduceLT, Int.reduceLE, Int.reduceEq, Nat.reduceMul, Nat.reduceLT, String.reduceEq, String.reduceNe, Int.reduceToNat, reduceCtorEq, Bool.not_true, Bool.not_false, Bool.true_or, Bool.or_true, Bool.false_or, Bool.or_false, Bool.true_and, Bool.and_true, Bool.false_and, Bool.and_false, Bool.not_eq_true', decide_eq_true_eq, decide_eq_false_iff_not, not_true_eq_false, not_false_eq_true]
  refine ci_reliable hT.tb ?_
  rw [hT.wid]
  exact h
theorem rel_sz (hT : Lt T m) : Sz 80 (relR m (parV T) (varR (totL T))) := by
  have m2 := hT.m2
  have m4 := hT.m4
  have p3 := hT.tb.parz.div hT.tb.totz
  have s1 : Sz 2 (1 : Rat) := Sz.int (i := 1) (by omega) (by omega)
  have s2 : Sz 3 ((((m : Nat) : Int)) : Rat) := Sz.int (by omega) (by omega)
  have s3 : Sz 3 ((((m : Nat) : Int) - 1 : Int) : Rat) := Sz.int (by omega) (by omega)
  exact ((s2.div s3).mul (s1.sub p3)).mono (by omega)
theorem st_14 (A : AEnds) {r f g : Rat} (r0 : 0 ≤ r) (r1 : r ≤ 1) (hr : Sz 80 r) (f1 : 1 ≤ f) (g1 : 1 / 2 ≤ g) (hf : Sz 4 f) (hg : Sz 4 g) {s0 s1 s2 s3 s4 s5 s6 s7 s8 s9 s10 s11 s12 s13 s14 s18 : Slot} (h : A.rt (.bl true)) : S_law_14 A [s0, s1, s2, s3, s4, s5, s6, s7, s8, s9, s10, s11, s12, s13, s14, .val (fr r), .val (fr f), .val (fr g), s18] := by
  obtain ⟨d1, d2, d3, e⟩ := len_ok r0 r1 f1 g1
  have s1 : Sz 2 (1 : Rat) := Sz.int (i := 1) (by omega) (by omega)
  have z1 : Sz 300 (lenR r f) := ((hf.mul hr).div (s1.add ((hf.sub s1).mul hr))).mono (by omega)
  have z2 := hf.mul hg
  simp only [S_law_14, wRet, wBin, wCall, wCons, wNil, wVar, List.getElem?_cons_zero, List.getElem?_cons_succ, List.set_cons_zero, List.set_cons_succ, List.map_cons, List.map_nil, List.cons_append, List.nil_append, List.length_cons, List.length_nil, List.replicate, Option.some.injEq, Slot.val.injEq, Slot.own.injEq, D.lst.injEq, exists_eq_left', exists_eq_left, exists_eq', true_and, and_true, Nat.reduceAdd, Nat.reduceSub, Nat.reduceLeDiff, Bool.false_eq_true, if_true, if_false, ↓reduceIte, Int.reduceMul, Int.reduceAdd, Int.reduceSub, Int.reduceNeg, Int.reduceLT, Int.reduceLE, Int.reduceEq, Nat.reduceMul, Nat.reduceLT, String.reduceEq, String.reduceNe, Int.reduceToNat, reduceCtorEq, Bool.not_true, Bool.not_false, Bool.true_or, Bool.or_true, Bool.false_or, Bool.or_false, Bool.true_and, Bool.and_true, Bool.false_and, Bool.and_false, Bool.not_eq_true', decide_eq_true_eq, decide_eq_false_iff_not, not_true_eq_false, not_false_eq_true, cl_lengthened, hr.mono (show 80 ≤ 300 by omega), hf.mono (show 4 ≤ 300 by omega), hg.mono (show 4 ≤ 300 by omega), d1, d2, d3, z1, ne_eq, cs_mul (hf.mono (show 4 ≤ 40 by omega)) (hg.mono (show 4 ≤ 40 by omega)), z2.mono (show 4 + 4 ≤ 300 by omega), dEq, plain_fr, deq_fr, e, decide_true]
  exact h
theorem half_le {d : Int} (d0 : 0 ≤ d) (d1 : d < 3) : (1 / 2 : Rat) ≤ Rat.divInt (1 + d) 2 ∧ Sz 4 (Rat.divInt (1 + d) 2) := by
  refine ⟨?_, divInt_sz (by omega) (by omega) (by omega)⟩
  rcases (by omega : d = 0 ∨ d = 1 ∨ d = 2) with rfl | rfl | rfl
  · decide +kernel
  · decide +kernel
  · decide +kernel
theorem st_13 (A : AEnds) {r : Rat} (r0 : 0 ≤ r) (r1 : r ≤ 1) (hr : Sz 80 r) {s0 s2 s3 s4 s5 s6 s7 s8 s9 s10 s11 s12 s13 s14 s16 s17 s18 : Slot} (h : A.rt (.bl true)) : wSeq S_law_13 S_law_14 A [s0, .val .tape, s2, s3, s4, s5, s6, s7, s8, s9, s10, s11, s12, s13, s14, .val (fr r), s16, s17, s18] := by
  have key : ∀ d e : Int, 0 ≤ d → d < 3 → 0 ≤ e → e < 3 → S_law_14 A [s0, .val .tape, s2, s3, s4, s5, s6, s7, s8, s9, s10, s11, s12, s13, s14, .val (fr r), .val (fr ((1 + d : Int) : Rat)), .val (fr (Rat.divInt (1 + e) 2)), s18] := fun d e d0 d1 e0 e1 => by
    have g := half_le e0 e1
    refine st_14 A r0 r1 hr ?_ g.1 (Sz.int (by omega) (by omega)) g.2 h
    have := Rat.intCast_le_intCast.mpr (show (1 : Int) ≤ 1 + d by omega)
    exact this
  generalize hS : S_law_14 = S at key ⊢
  simp only [wSeq, S_law_13, wPar, wTup, wCall, wCons, wNil, wVar, wBin, wC, dAdd, List.getElem?_cons_zero, List.getElem?_cons_succ, List.set_cons_zero, List.set_cons_succ, List.map_cons, List.map_nil, List.cons_append, List.nil_append, List.length_cons, List.length_nil, List.replicate, Option.some.injEq, Slot.val.injEq, Slot.own.injEq, D.lst.injEq, exists_eq_left', exists_eq_left, exists_eq', true_and, and_true, Nat.reduceAdd, Nat.reduceSub, Nat.reduceLeDiff, Bool.false_eq_true, if_true, if_false, ↓reduceIte, Int.reduceMul, Int.reduceAdd, Int.reduceSub, Int.reduceNeg, Int.reduceLT, Int.reduceLE, Int.reduceEq, Nat.reduceMul, Nat.reduceLT, String.reduceEq, String.reduceNe, Int.reduceToNat, reduceCtorEq, Bool.not_true, Bool.not_false, Bool.true_or, Bool.or_true, Bool.false_or, Bool.or_false, Bool.true_and, Bool.and_true, Bool.false_and, Bool.and_false, Bool.not_eq_true', decide_eq_true_eq, decide_eq_false_iff_not, not_true_eq_false, not_false_eq_true, cl_l_draw, cl_l_frac, setAll]
  intro d d0 d1 e e0 e1
  rw [fr_int]
  exact ⟨by omega, lt4000 (by omega), by decide, key d e d0 d1 e0 e1⟩
theorem st_12 (A : AEnds) (hT : Lt T m) {s0 s2 s3 s4 s5 s6 s7 s8 s9 s10 s11 s12 s13 s14 s16 s17 s18 : Slot} (h : A.rt (.bl true)) : R_law_12 A [s0, .val .tape, s2, s3, s4, s5, s6, s7, s8, s9, s10, s11, s12, s13, s14, .val (relD m (parV T) (varR (totL T))), s16, s17, s18] := by
  show wSeq S_law_12 (wSeq S_law_13 S_law_14) A _
  have m2 := hT.m2
  by_cases w0 : varR (totL T) = 0
  · have e : relD m (parV T) (varR (totL T)) = .non := by unfold relD; rw [if_pos (.inr w0)]
    rw [e]
    generalize wSeq S_law_13 S_law_14 = R
    simp only [wSeq, S_law_12, wIfS, wOr, wTest, wBin, wVar, wC, wRet, List.getElem?_cons_zero, List.getElem?_cons_succ, List.set_cons_zero, List.set_cons_succ, List.map_cons, List.map_nil, List.cons_append, List.nil_append, List.length_cons, List.length_nil, List.replicate, Option.some.injEq, Slot.val.injEq, Slot.own.injEq, D.lst.injEq, exists_eq_left', exists_eq_left, exists_eq', true_and, and_true, Nat.reduceAdd, Nat.reduceSub, Nat.reduceLeDiff, Bool.false_eq_true, if_true, if_false, ↓reduceIte, Int.reduceMul, Int.reduceAdd, Int.reduceSub, Int.reduceNeg, Int.reduceLT, Int.reduceLE, Int.reduceEq, Nat.reduceMul, Nat.reduceLT, String.reduceEq, String.reduceNe, Int.reduceToNat, reduceCtorEq, Bool.not_true, Bool.not_false, Bool.true_or, Bool.or_true, Bool.false_or, Bool.or_false, Bool.true_and, Bool.and_true, Bool.false_and, Bool.and_false, Bool.not_eq_true', decide_eq_true_eq, decide_eq_false_iff_not, not_true_eq_false, not_false_eq_true, dIsN, isNon_non, dBool]
    exact h
  · have e : relD m (parV T) (varR (totL T)) = fr (relR m (parV T) (varR (totL T))) := by unfold relD; rw [if_neg fun z => z.elim (fun z => by omega) w0]
    have r1 : relR m (parV T) (varR (totL T)) ≤ 1 := by
      have := rel_le hT.tb (by rw [hT.wid]; exact m2) w0
      rwa [hT.wid] at this
    have hr := rel_sz hT
    rw [e]
    generalize relR m (parV T) (varR (totL T)) = r at *
    have key : 0 ≤ r → wSeq S_law_13 S_law_14 A [s0, .val .tape, s2, s3, s4, s5, s6, s7, s8, s9, s10, s11, s12, s13, s14, .val (fr r), s16, s17, s18] := fun r0 => st_13 A r0 r1 hr h
    generalize wSeq S_law_13 S_law_14 = R at *
    have z : D.tup [.int 0, .int 1] = fr ((0 : Int) : Rat) := fr_int 0
    have sz : Sz 1900 ((0 : Int) : Rat) := (Sz.int (n := 2) (by omega) (by omega)).mono (by omega)
    simp only [wSeq, S_law_12, wIfS, wOr, wTest, wBin, wCall, wTup, wCons, wNil, wVar, wC, wRet, wNext, List.getElem?_cons_zero, List.getElem?_cons_succ, List.set_cons_zero, List.set_cons_succ, List.map_cons, List.map_nil, List.cons_append, List.nil_append, List.length_cons, List.length_nil, List.replicate, Option.some.injEq, Slot.val.injEq, Slot.own.injEq, D.lst.injEq, exists_eq_left', exists_eq_left, exists_eq', true_and, and_true, Nat.reduceAdd, Nat.reduceSub, Nat.reduceLeDiff, Bool.false_eq_true, if_true, if_false, ↓reduceIte, Int.reduceMul, Int.reduceAdd, Int.reduceSub, Int.reduceNeg, Int.reduceLT, Int.reduceLE, Int.reduceEq, Nat.reduceMul, Nat.reduceLT, String.reduceEq, String.reduceNe, Int.reduceToNat, reduceCtorEq, Bool.not_true, Bool.not_false, Bool.true_or, Bool.or_true, Bool.false_or, Bool.or_false, Bool.true_and, Bool.and_true, Bool.false_and, Bool.and_false, Bool.not_eq_true', decide_eq_true_eq, decide_eq_false_iff_not, not_true_eq_false, not_false_eq_true, dIsN, isNon_fr, dBool, z, cl_l_lt, hr.mono (show 80 ≤ 1900 by omega), sz]
    have z0 : ((0 : Int) : Rat) = 0 := rfl
    rw [z0]
    by_cases c : r < 0
    · simp only [c, List.getElem?_cons_zero, List.getElem?_cons_succ, List.set_cons_zero, List.set_cons_succ, List.map_cons, List.map_nil, List.cons_append, List.nil_append, List.length_cons, List.length_nil, List.replicate, Option.some.injEq, Slot.val.injEq, Slot.own.injEq, D.lst.injEq, exists_eq_left', exists_eq_left, exists_eq', true_and, and_true, Nat.reduceAdd, Nat.reduceSub, Nat.reduceLeDiff, Bool.false_eq_true, if_true, if_false, ↓reduceIte, Int.reduceMul, Int.reduceAdd, Int.reduceSub, Int.reduceNeg, Int.reduceLT, Int.reduceLE, Int.reduceEq, Nat.reduceMul, Nat.reduceLT, String.reduceEq, String.reduceNe, Int.reduceToNat, reduceCtorEq, Bool.not_true, Bool.not_false, Bool.true_or, Bool.or_true, Bool.false_or, Bool.or_false, Bool.true_and, Bool.and_true, Bool.false_and, Bool.and_false, Bool.not_eq_true', decide_eq_true_eq, decide_eq_false_iff_not, not_true_eq_false, not_false_eq_true]
      exact h
    · simp only [c, List.getElem?_cons_zero, List.getElem?_cons_succ, List.set_cons_zero, List.set_cons_succ, List.map_cons, List.map_nil, List.cons_append, List.nil_append, List.length_cons, List.length_nil, List.replicate, Option.some.injEq, Slot.val.injEq, Slot.own.injEq, D.lst.injEq, exists_eq_left', exists_eq_left, exists_eq', true_and, and_true, Nat.reduceAdd, Nat.reduceSub, Nat.reduceLeDiff, Bool.false_eq_true, if_true, if_false, ↓reduceIte, Int.reduceMul, Int.reduceAdd, Int.reduceSub, Int.reduceNeg, Int.reduceLT, Int.reduceLE, Int.reduceEq, Nat.reduceMul, Nat.reduceLT, String.reduceEq, String.reduceNe, Int.reduceToNat, reduceCtorEq, Bool.not_true, Bool.not_false, Bool.true_or, Bool.or_true, Bool.false_or, Bool.or_false, Bool.true_and, Bool.and_true, Bool.false_and, Bool.and_false, Bool.not_eq_true', decide_eq_true_eq, decide_eq_false_iff_not, not_true_eq_false, not_false_eq_true]
      exact key (Rat.not_lt.mp c)
end
theorem r_law : F_law AEnds.law (.non :: .val .tape :: List.replicate (19 - 2) .non) := by
  show R_law_0 AEnds.law [.non, .val .tape, .non, .non, .non, .non, .non, .non, .non, .non, .non, .non, .non, .non, .non, .non, .non, .non, .non]
  refine st_0 _ fun m m2 m4 => st_1 _ m2 m4 fun T hT => st_2 _ hT fun o U po pU => st_3 _ m2 m4 fun p c b hp hc hb b0 => st_4 _ ?_
  have S : St T U m o p c b := ⟨hT, pU, po, hp, hc, hb, b0⟩
  exact st_5 _ S fun _ _ _ => st_6 _ R_law_7 (st_7 _ S (st_8 _ S fun _ => st_9 _ hT (st_10 _ S (st_11 _ hT (st_12 _ hT rfl)))))

end Pl
end

section
set_option Elab.async false
set_option linter.all false
set_option maxRecDepth 100000
set_option maxHeartbeats 1000000
set_option autoImplicit false
namespace Pl
open PySem PySem.Spec PyProof.Rows L2
def top (i : Nat) : Stmt := PySem.Challenge.pw_fairmarks_k33_tables_turned_about.main.body.getD i (.Pass ⟨0, 0, 0, 0⟩)
abbrev s_l_draw : Stmt := top 31
abbrev s_l_tape : Stmt := top 32
abbrev s_fraction : Stmt := top 7
abbrev s_whole : Stmt := top 8
abbrev s_add : Stmt := top 9
abbrev s_minus : Stmt := top 10
abbrev s_times : Stmt := top 11
abbrev s_over : Stmt := top 12
abbrev s_total_of : Stmt := top 13
abbrev s_need_some : Stmt := top 15
abbrev s_mean : Stmt := top 16
abbrev s_products : Stmt := top 17
abbrev s_variance : Stmt := top 18
abbrev s_correlation : Stmt := top 19
abbrev s_check_table : Stmt := top 21
abbrev s_column : Stmt := top 22
abbrev s_totals : Stmt := top 23
abbrev s_rest : Stmt := top 24
abbrev s_discrimination : Stmt := top 25
abbrev s_reliability : Stmt := top 26
abbrev s_reliability_without : Stmt := top 27
abbrev s_halves : Stmt := top 28
abbrev s_lengthened : Stmt := top 29
abbrev s_l_mod : Stmt := top 33
abbrev s_l_gcd : Stmt := top 34
abbrev s_l_frac : Stmt := top 35
abbrev s_l_add : Stmt := top 36
abbrev s_l_mul : Stmt := top 37
abbrev s_l_lt : Stmt := top 38
abbrev s_l_fraction : Stmt := top 39
abbrev s_l_stirred : Stmt := top 40
abbrev s_l_reliable : Stmt := top 41
abbrev s_l_without : Stmt := top 42
abbrev s_l_sharp : Stmt := top 43
abbrev s_law : Stmt := top 44
structure Txt (K : PySem.W.Frag) (mg : Str → Option Value) : Prop where
  f_l_draw : Fnx K mg "_law_draw" s_l_draw
  f_l_tape : Fnx K mg "_law_tape" s_l_tape
  f_fraction : Fnx K mg "fraction" s_fraction
  f_whole : Fnx K mg "whole" s_whole
  f_add : Fnx K mg "add" s_add
  f_minus : Fnx K mg "minus" s_minus
  f_times : Fnx K mg "times" s_times
  f_over : Fnx K mg "over" s_over
  f_total_of : Fnx K mg "total_of" s_total_of
  f_need_some : Fnx K mg "need_some" s_need_some
  f_mean : Fnx K mg "mean" s_mean
  f_products : Fnx K mg "products" s_products
  f_variance : Fnx K mg "variance" s_variance
  f_correlation : Fnx K mg "correlation" s_correlation
  f_check_table : Fnx K mg "check_table" s_check_table
  f_column : Fnx K mg "column" s_column
  f_totals : Fnx K mg "totals" s_totals
  f_rest : Fnx K mg "rest" s_rest
  f_discrimination : Fnx K mg "discrimination" s_discrimination
  f_reliability : Fnx K mg "reliability" s_reliability
  f_reliability_without : Fnx K mg "reliability_without" s_reliability_without
  f_halves : Fnx K mg "halves" s_halves
  f_lengthened : Fnx K mg "lengthened" s_lengthened
  f_l_mod : Fnx K mg "_law_mod" s_l_mod
  f_l_gcd : Fnx K mg "_law_gcd" s_l_gcd
  f_l_frac : Fnx K mg "_law_frac" s_l_frac
  f_l_add : Fnx K mg "_law_add" s_l_add
  f_l_mul : Fnx K mg "_law_mul" s_l_mul
  f_l_lt : Fnx K mg "_law_lt" s_l_lt
  f_l_fraction : Fnx K mg "_law_fraction" s_l_fraction
  f_l_stirred : Fnx K mg "_law_stirred" s_l_stirred
  f_l_reliable : Fnx K mg "_law_reliable" s_l_reliable
  f_l_without : Fnx K mg "_law_without" s_l_without
  f_l_sharp : Fnx K mg "_law_sharp" s_l_sharp
  b_gcd : mg "gcd" = some (.builtin "math.gcd")
  c_ONE : Cst K mg "ONE" c_ONE
  c_ZERO : Cst K mg "ZERO" c_ZERO
  n_abs : mg "abs" = none
  n_all : mg "all" = none
  n_int : mg "int" = none
  n_len : mg "len" = none
  n_list : mg "list" = none
  n_range : mg "range" = none
  n_zip : mg "zip" = none
  e_BadNumber : ExF K mg "BadNumber"
theorem scDraw : FnScope ["tape", "many", "cells", "k", "cell", "digit"] ["tape", "many"] (defScope s_l_draw) := ⟨rfl, rfl, rfl, by decide +kernel, rfl, by decide +kernel, by decide +kernel⟩
theorem scTape : FnScope ["script", "mix", "cell"] ["script"] (defScope s_l_tape) := ⟨rfl, rfl, rfl, by decide +kernel, rfl, by decide +kernel, by decide +kernel⟩
section
variable {P : Program} {w : World} {K : PySem.W.Frag} {mg : Str → Option Value} {base : Heap}
theorem kn_draw (F : Fnx K mg "_law_draw" s_l_draw) (mL : mg "len" = none) (mI : mg "int" = none) : Kn P w K mg base 1 "_law_draw" (spP K φ_l_draw) := by
  obtain ⟨f, fd, F, hm⟩ := F.ex
  refine ⟨f, fd, ["tape", "many"], F.ok scDraw ?_ ?_, hm, F.kp, F.bindsN fun _ _ _ _ _ _ us hl => match us, hl with | [_, _], _ => rfl⟩
  · rintro vs H Q E ⟨T, M, ds, Qd, wd, r, q, _⟩
    rw [r.length]
    unfold φ_l_draw at q
    split at q
    · rfl
    · exact q.elim
  · rintro cdv A outer s H vs Q E hr ⟨T, M, ds, Qd, wd, r, q, kk⟩
    unfold φ_l_draw at q
    split at q
    · rename_i many
      obtain ⟨⟨m0, m1⟩, q⟩ := q
      obtain ⟨v1, us, rfl, r1, r2⟩ := r.inv_cons
      obtain ⟨v2, us2, rfl, r3, r4⟩ := r2.inv_cons
      cases r4.inv_nil
      cases r1
      cases r3
      obtain ⟨k, acc, mix, cells, hT, hC, nM, k0, a0, x0⟩ := wd.tape
      have ne : T.c ≠ T.t := fun z => nM (by rw [z]; exact wd.mT)
      let I1 : L2.St → Hp → Prop := fun σ H' => ∃ c : Int, σ = [some (.ref T.t), some (.int many), some (.ref T.c), some (.int k), some (.int c), none] ∧ H' = H ∧ 0 ≤ c
      refine ⟨_, PSs.nox (pss_cons (ps_cut (fun σ H' => ∃ x y z, σ = [some (.ref T.t), some (.int many), x, y, z, none] ∧ DrawI K T H H') (ps_if (pt_cmpR op_lt (pe_ix ix_list (pv 0) pe_int (fun _ _ => rfl)) (pv 1) (nomark _))
          (pss_cons (ps_set (i := 2) scDraw.nd rfl (Or.inl rfl) (pe_ix ix_list (pv 0) pe_int (fun _ _ => rfl)))
          (pss_cons (ps_set (i := 3) scDraw.nd rfl (Or.inl rfl) (pe_ix ix_list (pv 0) pe_int (fun _ _ => rfl)))
          (pss_cons (ps_cut (fun σ H' => ∃ c : Int, σ = [some (.ref T.t), some (.int many), some (.ref T.c), some (.int k), some (.int c), none] ∧ H' = H) (ps_set (i := 4) scDraw.nd rfl (Or.inl rfl) (pe_ifExp (pt_cmpR op_lt (pv 3) (pe_callB call_len_seq (by rfl) mL PySem.boot_len (pa_cons (pv 2) pa_nil)) (nomark _)) (pe_ix ix_list (pv 2) (pv 3) (fun _ _ => rfl)) (pe_ix ix_list (pv 0) pe_int (fun _ _ => rfl)))))
          (pss_cons (ps_cut I1 (ps_if (pt_cmpR op_lt (pv 4) pe_int (nomark _)) (pss_one (ps_set (i := 4) scDraw.nd rfl (Or.inl rfl) (pe_op op_sub (pe_op op_mul (pe_un un_neg pe_int) (pv 4)) pe_int))) pss_nil))
          (pss_cons (ps_cut I1 (ps_if (PW.pt (pw_or (pt_cmpR op_lt (pv 4) (pe_op op_pow pe_int pe_int) (nomark _)) (pw_or1 (pt_cmpR op_ge (pv 3) (pe_callB call_len_seq (by rfl) mL PySem.boot_len (pa_cons (pv 2) pa_nil)) (nomark _)))))
            (pss_cons (ps_set (i := 4) scDraw.nd rfl (Or.inl rfl) (pe_op op_mod (pe_callTy call_int1 (by rfl) mI (by decide +kernel) (pa_cons (pe_op op_add (pe_op op_add (pe_op op_mul (pv 4) pe_int) (pe_op op_mul (pv 3) pe_int)) pe_int) pa_nil)) pe_int))
            (pss_one (ps_set (i := 4) scDraw.nd rfl (Or.inl rfl) (pe_op op_mod (pe_callTy call_int1 (by rfl) mI (by decide +kernel) (pa_cons (pe_op op_add (pe_op op_add (pe_op op_mul (pv 4) (pv 4)) (pe_op op_mul (pv 3) pe_int)) pe_int) pa_nil)) pe_int)))) pss_nil))
          (pss_cons (ps_asg (pe_op op_add (pv 3) pe_int) (pg_sub (pv 0) pe_int set_list))
          (pss_one (ps_asg (pv 4) (pg_sub (pv 0) pe_int set_list))))))))) pss_nil))
        (pss_cons (ps_set (i := 5) scDraw.nd rfl (Or.inl rfl) (pe_op op_mod (pe_callTy call_int1 (by rfl) mI (by decide +kernel) (pa_cons (pe_ix ix_list (pv 0) pe_int (fun _ _ => rfl)) pa_nil)) (pv 1)))
        (pss_cons (ps_asg (pe_op op_fdiv (pe_ix ix_list (pv 0) pe_int (fun _ _ => rfl)) (pv 1)) (pg_sub (pv 0) pe_int set_list))
        (pss_one (ps_ret (pv 5)))))), ?_⟩
      refine ⟨?_, ?_⟩
      · refine ⟨_, rfl, _, _, _, _, rfl, rfl, SqL.of hT, rfl, _, rfl, _, _, rfl, rfl, _, rfl, ?_⟩
        refine ite2 (fun _ => ?_) (fun _ => ?_)
        · refine ⟨_, rfl, _, _, _, _, rfl, rfl, SqL.of hT, rfl, ?_⟩
          refine ⟨_, rfl, _, _, _, _, rfl, rfl, SqL.of hT, rfl, ?_⟩
          refine ⟨?_, ?_⟩
          · refine ⟨_, rfl, _, rfl, _, _, rfl, .inl (SqL.of hC), _, _, rfl, rfl, _, rfl, ?_⟩
            refine ite2 (fun lt => ?_) (fun _ => ?_)
            · have lt : k < ((cells.map V.int).length : Nat) := by simpa using lt
              obtain ⟨kn, rfl⟩ := Int.eq_ofNat_of_zero_le k0
              have lt2 : kn < cells.length := by simpa using lt
              exact ⟨_, rfl, _, rfl, _, _, _, .int (cells[kn]), rfl, rfl, SqL.of hC, atI_nat (by simp [lt2]), _, rfl, rfl⟩
            · exact ⟨_, rfl, _, _, _, .int mix, rfl, rfl, SqL.of hT, rfl, _, rfl, rfl⟩
          rintro σ' H' ⟨c, rfl, rfl⟩
          refine ⟨?_, ?_⟩
          · refine ⟨_, rfl, _, _, rfl, rfl, _, rfl, ?_⟩
            refine ite2 (fun lt => ?_) (fun ge => ?_)
            · have lt : c < 0 := by simpa using lt
              exact ⟨_, rfl, _, rfl, _, _, rfl, rfl, .inl ⟨by decide, by decide⟩, _, _, rfl, rfl, _, rfl, rfl, by omega⟩
            · have ge : ¬ c < 0 := by simpa using ge
              exact ⟨c, rfl, rfl, by omega⟩
          rintro σ' H' ⟨c, rfl, rfl, c0⟩
          refine ⟨?_, ?_⟩
          · refine ⟨_, rfl, _, _, rfl, rfl, ⟨by decide, by decide, by decide⟩, _, _, rfl, rfl, _, rfl, ?_⟩
            have m1 : (0 : Int) < 2147483647 := by decide
            have m2 : (0 : Int) < 2147483629 := by decide
            refine ite2 (fun _ => iteT ?_) (fun _ => ?_)
            · refine ⟨_, rfl, _, _, rfl, rfl, .inr ⟨by decide, by decide⟩, _, rfl, _, _, rfl, rfl, .inr ⟨by decide, by decide⟩, _, _, rfl, rfl, _, _, rfl, rfl, .inl ⟨_, rfl, _, _, rfl, rfl, m1, ?_⟩⟩
              have b1 := Int.emod_nonneg (c * 48271 + k * 69621 + 12345) (show (2147483647 : Int) ≠ 0 by decide)
              have b2 := Int.emod_lt_of_pos (c * 48271 + k * 69621 + 12345) m1
              refine ⟨_, rfl, _, rfl, _, _, rfl, rfl, .inl ⟨by omega, by omega⟩, _, rfl, _, _, rfl, rfl, .inr ⟨by decide, by decide⟩, _, _, rfl, rfl, _, _, rfl, rfl, .inl ⟨_, rfl, _, _, rfl, rfl, m2, ?_⟩⟩
              exact ⟨_, rfl, rfl, Int.emod_nonneg _ (by decide)⟩
            · refine ⟨_, rfl, _, rfl, _, _, rfl, .inl (SqL.of hC), _, _, rfl, rfl, _, rfl, ?_⟩
              refine ite2 (fun _ => ?_) (fun _ => ?_)
              · refine ⟨_, rfl, _, _, rfl, rfl, .inr ⟨by decide, by decide⟩, _, rfl, _, _, rfl, rfl, .inr ⟨by decide, by decide⟩, _, _, rfl, rfl, _, _, rfl, rfl, .inl ⟨_, rfl, _, _, rfl, rfl, m1, ?_⟩⟩
                have b1 := Int.emod_nonneg (c * 48271 + k * 69621 + 12345) (show (2147483647 : Int) ≠ 0 by decide)
                have b2 := Int.emod_lt_of_pos (c * 48271 + k * 69621 + 12345) m1
                refine ⟨_, rfl, _, rfl, _, _, rfl, rfl, .inl ⟨by omega, by omega⟩, _, rfl, _, _, rfl, rfl, .inr ⟨by decide, by decide⟩, _, _, rfl, rfl, _, _, rfl, rfl, .inl ⟨_, rfl, _, _, rfl, rfl, m2, ?_⟩⟩
                exact ⟨_, rfl, rfl, Int.emod_nonneg _ (by decide)⟩
              · exact ⟨c, rfl, rfl, c0⟩
          rintro σ' H' ⟨c, rfl, rfl, c0⟩
          refine ⟨_, rfl, _, _, rfl, rfl, _, rfl, _, _, _, 1, rfl, rfl, hT, rfl, ?_⟩
          refine ⟨_, rfl, _, rfl, _, _, _, 2, rfl, rfl, upd_same, rfl, ?_⟩
          refine ⟨_, _, _, rfl, k + 1, c, mix, cells, upd_same, by rw [upd_ne ne, upd_ne ne]; exact hC, by omega, c0, x0, fun a o n e => by rw [upd_ne n, upd_ne n]; exact e⟩
        · exact ⟨_, _, _, rfl, k, acc, mix, cells, hT, hC, k0, a0, x0, fun _ _ _ e => e⟩
      · rintro σ' H' ⟨x, y, z, rfl, k, acc, mix, cells, hT, hC, k0, a0, x0, kp⟩
        refine ⟨_, rfl, _, _, _, _, rfl, rfl, SqL.of hT, rfl, .inl ⟨_, rfl, _, rfl, _, _, rfl, rfl, m0, ?_⟩⟩
        refine ⟨_, rfl, _, _, _, _, rfl, rfl, SqL.of hT, rfl, _, rfl, _, _, rfl, rfl, ⟨m0, m1⟩, _, rfl, _, _, _, 2, rfl, rfl, hT, rfl, ?_⟩
        refine ⟨_, rfl, ?_⟩
        refine kk (.int (acc % many)) _ _ (q _ (Int.emod_nonneg _ (by omega)) (Int.emod_lt_of_pos _ m0)) ⟨fun a o n e => ?_, ?_⟩ (.int _)
        · rw [upd_ne n]; exact kp a o n e
        · exact ⟨k, acc / many, mix, cells, upd_same, by rw [upd_ne ne]; exact hC, nM, k0, Int.ediv_nonneg a0 (by omega), x0⟩
    · exact q.elim
theorem kn_tape (F : Fnx K mg "_law_tape" s_l_tape) (mL : mg "len" = none) (mI : mg "int" = none) (mS : mg "list" = none) : Kn P w K mg base 1 "_law_tape" (spTape K) := by
  obtain ⟨f, fd, F, hm⟩ := F.ex
  refine ⟨f, fd, ["script"], F.ok scTape ?_ ?_, hm, F.kp, F.bindsN fun _ _ _ _ _ _ us hl => match us, hl with | [_], _ => rfl⟩
  · rintro vs H Q E ⟨a, ns, rfl, _⟩
    rfl
  · rintro cdv A outer s H vs Q E hr ⟨a, ns, rfl, hS, kk⟩
    refine ⟨_, PSs.nox (pss_cons (ps_set (i := 1) scTape.nd rfl (Or.inl rfl) (pe_callB call_len_seq (by rfl) mL PySem.boot_len (pa_cons (pv 0) pa_nil)))
      (pss_cons (ps_for PassesOwn.never rfl (pi_list (pv 0)) (pg_name (i := 2) scTape.nd rfl (Or.inl rfl))
        (pss_one (ps_set (i := 1) scTape.nd rfl (Or.inl rfl) (pe_op op_mod (pe_callTy call_int1 (by rfl) mI (by decide +kernel) (pa_cons (pe_op op_add (pe_op op_add (pe_op op_mul (pv 1) pe_int) (pe_op op_mul (pv 2) pe_int)) pe_int) pa_nil)) pe_int))))
      (pss_one (ps_ret (pe_lst (pa_cons (pe_callTy call_list_of (by rfl) mS (by decide +kernel) (pa_cons (pv 0) pa_nil)) (pa_cons pe_int (pa_cons pe_int (pa_cons (pv 1) pa_nil))))))))), ?_⟩
    refine ⟨_, rfl, a, _, rfl, .inl hS, ?_⟩
    refine ⟨_, rfl, a, rfl, ⟨_, hS⟩, for_list (K := K) (a := a) (xs := ns.map V.int) (fun i σ H' => ∃ (mix : Int) (v : Option V), σ = [some (.ref a), some (.int mix), v] ∧ H' = H ∧ 0 ≤ mix) ⟨_, _, rfl, rfl, by omega⟩ (fun i σ H' _ ⟨_, _, _, e, _⟩ => by rw [e]; exact hS) ?_ ?_⟩
    · rintro i y σ H' hi ⟨mix, v, rfl, rfl, m0⟩
      obtain ⟨u, rfl⟩ : ∃ u, y = V.int u := by
        rw [List.getElem?_map] at hi
        cases e : ns[i]? with
        | none => rw [e] at hi; cases hi
        | some u => rw [e] at hi; exact ⟨u, (Option.some.inj hi).symm⟩
      refine ⟨_, rfl, _, _, rfl, rfl, .inr ⟨by decide, by decide⟩, _, rfl, _, _, rfl, rfl, .inr ⟨by decide, by decide⟩, _, _, rfl, rfl, _, _, rfl, rfl, .inl ⟨_, rfl, _, _, rfl, rfl, (by show (0 : Int) < 1000000007; decide), ?_⟩⟩
      exact ⟨_, _, rfl, rfl, Int.emod_nonneg _ (by decide)⟩
    · rintro σ H' ⟨mix, v, rfl, rfl, m0⟩
      refine ⟨_, rfl, a, _, rfl, .inl hS, fun c hc => ?_⟩
      refine ⟨_, rfl, (by show 4 ≤ sizeLine; decide), fun t ht => ?_⟩
      have hct : c ≠ t := fun z => by rw [z, upd_same] at ht; cases ht
      have ht2 : H' t = none := by rw [upd_ne (Ne.symm hct)] at ht; exact ht
      refine kk _ { t := t, c := c } mix (fun b o e => ?_) hct upd_same ?_ m0
      · rw [upd_ne (ne_of_none e ht2), upd_ne (ne_of_none e hc)]; exact e
      · show upd _ t _ c = _
        rw [upd_ne hct, upd_same]
end
theorem sc_fraction : FnScope ["top", "bottom", "common"] ["top", "bottom"] (defScope s_fraction) := ⟨rfl, rfl, rfl, by decide +kernel, rfl, by decide +kernel, by decide +kernel⟩
theorem sc_whole : FnScope ["n"] ["n"] (defScope s_whole) := ⟨rfl, rfl, rfl, by decide +kernel, rfl, by decide +kernel, by decide +kernel⟩
theorem sc_add : FnScope ["a", "b"] ["a", "b"] (defScope s_add) := ⟨rfl, rfl, rfl, by decide +kernel, rfl, by decide +kernel, by decide +kernel⟩
theorem sc_minus : FnScope ["a", "b"] ["a", "b"] (defScope s_minus) := ⟨rfl, rfl, rfl, by decide +kernel, rfl, by decide +kernel, by decide +kernel⟩
theorem sc_times : FnScope ["a", "b"] ["a", "b"] (defScope s_times) := ⟨rfl, rfl, rfl, by decide +kernel, rfl, by decide +kernel, by decide +kernel⟩
theorem sc_over : FnScope ["a", "b"] ["a", "b"] (defScope s_over) := ⟨rfl, rfl, rfl, by decide +kernel, rfl, by decide +kernel, by decide +kernel⟩
theorem sc_total_of : FnScope ["fractions", "found", "one"] ["fractions"] (defScope s_total_of) := ⟨rfl, rfl, rfl, by decide +kernel, rfl, by decide +kernel, by decide +kernel⟩
theorem sc_need_some : FnScope ["row"] ["row"] (defScope s_need_some) := ⟨rfl, rfl, rfl, by decide +kernel, rfl, by decide +kernel, by decide +kernel⟩
theorem sc_mean : FnScope ["row"] ["row"] (defScope s_mean) := ⟨rfl, rfl, rfl, by decide +kernel, rfl, by decide +kernel, by decide +kernel⟩
theorem sc_products : FnScope ["row", "other", "middle", "second", "found", "a", "b"] ["row", "other"] (defScope s_products) := ⟨rfl, rfl, rfl, by decide +kernel, rfl, by decide +kernel, by decide +kernel⟩
theorem sc_variance : FnScope ["row"] ["row"] (defScope s_variance) := ⟨rfl, rfl, rfl, by decide +kernel, rfl, by decide +kernel, by decide +kernel⟩
theorem sc_correlation : FnScope ["row", "other", "top", "square"] ["row", "other"] (defScope s_correlation) := ⟨rfl, rfl, rfl, by decide +kernel, rfl, by decide +kernel, by decide +kernel⟩
theorem sc_check_table : FnScope ["table", "row"] ["table"] (defScope s_check_table) := ⟨rfl, rfl, rfl, by decide +kernel, rfl, by decide +kernel, by decide +kernel⟩
theorem sc_column : FnScope ["table", "question", "row"] ["table", "question"] (defScope s_column) := ⟨rfl, rfl, rfl, by decide +kernel, rfl, by decide +kernel, by decide +kernel⟩
theorem sc_totals : FnScope ["table", "row"] ["table"] (defScope s_totals) := ⟨rfl, rfl, rfl, by decide +kernel, rfl, by decide +kernel, by decide +kernel⟩
theorem sc_rest : FnScope ["table", "question", "row"] ["table", "question"] (defScope s_rest) := ⟨rfl, rfl, rfl, by decide +kernel, rfl, by decide +kernel, by decide +kernel⟩
theorem sc_discrimination : FnScope ["table", "question"] ["table", "question"] (defScope s_discrimination) := ⟨rfl, rfl, rfl, by decide +kernel, rfl, by decide +kernel, by decide +kernel⟩
theorem sc_reliability : FnScope ["table", "many", "parts", "whole_variance", "question"] ["table"] (defScope s_reliability) := ⟨rfl, rfl, rfl, by decide +kernel, rfl, by decide +kernel, by decide +kernel⟩
theorem sc_reliability_without : FnScope ["table", "question", "row", "k"] ["table", "question"] (defScope s_reliability_without) := ⟨rfl, rfl, rfl, by decide +kernel, rfl, by decide +kernel, by decide +kernel⟩
theorem sc_halves : FnScope ["table", "evens", "odds", "row", "k"] ["table"] (defScope s_halves) := ⟨rfl, rfl, rfl, by decide +kernel, rfl, by decide +kernel, by decide +kernel⟩
theorem sc_lengthened : FnScope ["reliable", "times_as_long", "top"] ["reliable", "times_as_long"] (defScope s_lengthened) := ⟨rfl, rfl, rfl, by decide +kernel, rfl, by decide +kernel, by decide +kernel⟩
theorem sc_l_mod : FnScope ["a", "n"] ["a", "n"] (defScope s_l_mod) := ⟨rfl, rfl, rfl, by decide +kernel, rfl, by decide +kernel, by decide +kernel⟩
theorem sc_l_gcd : FnScope ["a", "b", "k"] ["a", "b"] (defScope s_l_gcd) := ⟨rfl, rfl, rfl, by decide +kernel, rfl, by decide +kernel, by decide +kernel⟩
theorem sc_l_frac : FnScope ["upper", "lower", "common"] ["upper", "lower"] (defScope s_l_frac) := ⟨rfl, rfl, rfl, by decide +kernel, rfl, by decide +kernel, by decide +kernel⟩
theorem sc_l_add : FnScope ["a", "b"] ["a", "b"] (defScope s_l_add) := ⟨rfl, rfl, rfl, by decide +kernel, rfl, by decide +kernel, by decide +kernel⟩
theorem sc_l_mul : FnScope ["a", "b"] ["a", "b"] (defScope s_l_mul) := ⟨rfl, rfl, rfl, by decide +kernel, rfl, by decide +kernel, by decide +kernel⟩
theorem sc_l_lt : FnScope ["a", "b"] ["a", "b"] (defScope s_l_lt) := ⟨rfl, rfl, rfl, by decide +kernel, rfl, by decide +kernel, by decide +kernel⟩
theorem sc_l_fraction : FnScope ["tape", "most", "lower"] ["tape", "most"] (defScope s_l_fraction) := ⟨rfl, rfl, rfl, by decide +kernel, rfl, by decide +kernel, by decide +kernel⟩
theorem sc_l_stirred : FnScope ["tape", "rows", "found", "waiting"] ["tape", "rows"] (defScope s_l_stirred) := ⟨rfl, rfl, rfl, by decide +kernel, rfl, by decide +kernel, by decide +kernel⟩
theorem sc_l_reliable : FnScope ["marks"] ["marks"] (defScope s_l_reliable) := ⟨rfl, rfl, rfl, by decide +kernel, rfl, by decide +kernel, by decide +kernel⟩
theorem sc_l_without : FnScope ["marks", "place"] ["marks", "place"] (defScope s_l_without) := ⟨rfl, rfl, rfl, by decide +kernel, rfl, by decide +kernel, by decide +kernel⟩
theorem sc_l_sharp : FnScope ["marks", "place"] ["marks", "place"] (defScope s_l_sharp) := ⟨rfl, rfl, rfl, by decide +kernel, rfl, by decide +kernel, by decide +kernel⟩
theorem sc_law : FnScope ["script", "tape", "many", "marks", "order", "scripts", "place", "more", "by", "other", "row", "moved", "k", "left", "right", "told", "first", "second", "n"] ["script"] (defScope s_law) := ⟨rfl, rfl, rfl, by decide +kernel, rfl, by decide +kernel, by decide +kernel⟩
section
variable {P : Program} {w : World} {K : PySem.W.Frag} {mg : Str → Option Value} {base : Heap}
set_option maxHeartbeats 4000000 in
theorem kn_fraction (T : Txt K mg)  : Kn P w K mg base 1 "fraction" (spP K φ_fraction) := by
  have nd := sc_fraction.nd
  refine kn_of T.f_fraction sc_fraction (fun _ _ _ _ _ _ us hl => match us, hl with | [_, _], _ => rfl) len_fraction (Fb := F_fraction) (fun f cdv A outer s H E hr => ?_) r_fraction
  exact (pps_cons (pp_ifS (ppt_cmp (op_eqD hr.units) a_eq (pb (pp_var 1)) (pb pp_int) (nomark _))
      pps_never
      pps_nil)
    (pps_cons (pp_ifS (ppt_cmp op_lt a_lt (pb (pp_var 1)) (pb pp_int) (nomark _))
      (pps_one (pp_par2 (i0 := 0) (i1 := 1) rfl nd rfl rfl (by decide) rfl rfl (ppa_cons (pp_un un_neg a_neg (pb (pp_var 0))) (ppa_cons (pp_un un_neg a_neg (pb (pp_var 1))) ppa_nil)) (by rfl)))
      pps_nil)
    (pps_cons (pp_set (i := 2) nd rfl (Or.inl rfl) (pp_callG cr_gcd c_gcd (by rfl) T.b_gcd (pba_cons (pb (pp_var 0)) (pba_cons (pb (pp_var 1)) pba_nil))))
    (pps_one (pp_ret (pp_tup (ppa_cons (pp_op op_fdivW a_fdiv (pb (pp_var 0)) (pb (pp_var 2))) (ppa_cons (pp_op op_fdivW a_fdiv (pb (pp_var 1)) (pb (pp_var 2))) ppa_nil))))))))
set_option maxHeartbeats 4000000 in
theorem kn_whole (T : Txt K mg)  : Kn P w K mg base 1 "whole" (spP K φ_whole) := by
  have nd := sc_whole.nd
  refine kn_of T.f_whole sc_whole (fun _ _ _ _ _ _ us hl => match us, hl with | [_], _ => rfl) len_whole (Fb := F_whole) (fun f cdv A outer s H E hr => ?_) r_whole
  exact (pps_one (pp_ret (pp_tup (ppa_cons (pp_var 0) (ppa_cons pp_int ppa_nil)))))
set_option maxHeartbeats 4000000 in
theorem kn_add (T : Txt K mg) (k_fraction : Kn P w K mg base 1 "fraction" (spP K φ_fraction)) : Kn P w K mg base 2 "add" (spP K φ_add) := by
  have nd := sc_add.nd
  refine kn_of T.f_add sc_add (fun _ _ _ _ _ _ us hl => match us, hl with | [_, _], _ => rfl) len_add (Fb := F_add) (fun f cdv A outer s H E hr => ?_) r_add
  exact (pps_one (pp_ret (pp_call (k_fraction.df hr (by decide)) (by rfl) (ppa_cons (pp_op op_addA a_add (pb (pp_op op_mulA a_mul (pb (pp_ix ix_seq a_ix (pb (pp_var 0)) (pb pp_int))) (pb (pp_ix ix_seq a_ix (pb (pp_var 1)) (pb pp_int))))) (pb (pp_op op_mulA a_mul (pb (pp_ix ix_seq a_ix (pb (pp_var 1)) (pb pp_int))) (pb (pp_ix ix_seq a_ix (pb (pp_var 0)) (pb pp_int)))))) (ppa_cons (pp_op op_mulA a_mul (pb (pp_ix ix_seq a_ix (pb (pp_var 0)) (pb pp_int))) (pb (pp_ix ix_seq a_ix (pb (pp_var 1)) (pb pp_int)))) ppa_nil)))))
set_option maxHeartbeats 4000000 in
theorem kn_minus (T : Txt K mg) (k_fraction : Kn P w K mg base 1 "fraction" (spP K φ_fraction)) : Kn P w K mg base 2 "minus" (spP K φ_minus) := by
  have nd := sc_minus.nd
  refine kn_of T.f_minus sc_minus (fun _ _ _ _ _ _ us hl => match us, hl with | [_, _], _ => rfl) len_minus (Fb := F_minus) (fun f cdv A outer s H E hr => ?_) r_minus
  exact (pps_one (pp_ret (pp_call (k_fraction.df hr (by decide)) (by rfl) (ppa_cons (pp_op op_sub a_sub (pb (pp_op op_mulA a_mul (pb (pp_ix ix_seq a_ix (pb (pp_var 0)) (pb pp_int))) (pb (pp_ix ix_seq a_ix (pb (pp_var 1)) (pb pp_int))))) (pb (pp_op op_mulA a_mul (pb (pp_ix ix_seq a_ix (pb (pp_var 1)) (pb pp_int))) (pb (pp_ix ix_seq a_ix (pb (pp_var 0)) (pb pp_int)))))) (ppa_cons (pp_op op_mulA a_mul (pb (pp_ix ix_seq a_ix (pb (pp_var 0)) (pb pp_int))) (pb (pp_ix ix_seq a_ix (pb (pp_var 1)) (pb pp_int)))) ppa_nil)))))
set_option maxHeartbeats 4000000 in
theorem kn_times (T : Txt K mg) (k_fraction : Kn P w K mg base 1 "fraction" (spP K φ_fraction)) : Kn P w K mg base 2 "times" (spP K φ_times) := by
  have nd := sc_times.nd
  refine kn_of T.f_times sc_times (fun _ _ _ _ _ _ us hl => match us, hl with | [_, _], _ => rfl) len_times (Fb := F_times) (fun f cdv A outer s H E hr => ?_) r_times
  exact (pps_one (pp_ret (pp_call (k_fraction.df hr (by decide)) (by rfl) (ppa_cons (pp_op op_mulA a_mul (pb (pp_ix ix_seq a_ix (pb (pp_var 0)) (pb pp_int))) (pb (pp_ix ix_seq a_ix (pb (pp_var 1)) (pb pp_int)))) (ppa_cons (pp_op op_mulA a_mul (pb (pp_ix ix_seq a_ix (pb (pp_var 0)) (pb pp_int))) (pb (pp_ix ix_seq a_ix (pb (pp_var 1)) (pb pp_int)))) ppa_nil)))))
set_option maxHeartbeats 4000000 in
theorem kn_over (T : Txt K mg) (k_fraction : Kn P w K mg base 1 "fraction" (spP K φ_fraction)) : Kn P w K mg base 2 "over" (spP K φ_over) := by
  have nd := sc_over.nd
  refine kn_of T.f_over sc_over (fun _ _ _ _ _ _ us hl => match us, hl with | [_, _], _ => rfl) len_over (Fb := F_over) (fun f cdv A outer s H E hr => ?_) r_over
  exact (pps_one (pp_ret (pp_call (k_fraction.df hr (by decide)) (by rfl) (ppa_cons (pp_op op_mulA a_mul (pb (pp_ix ix_seq a_ix (pb (pp_var 0)) (pb pp_int))) (pb (pp_ix ix_seq a_ix (pb (pp_var 1)) (pb pp_int)))) (ppa_cons (pp_op op_mulA a_mul (pb (pp_ix ix_seq a_ix (pb (pp_var 0)) (pb pp_int))) (pb (pp_ix ix_seq a_ix (pb (pp_var 1)) (pb pp_int)))) ppa_nil)))))
set_option maxHeartbeats 4000000 in
theorem kn_total_of (T : Txt K mg) (k_add : Kn P w K mg base 2 "add" (spP K φ_add)) : Kn P w K mg base 3 "total_of" (spP K φ_total_of) := by
  have nd := sc_total_of.nd
  refine kn_of T.f_total_of sc_total_of (fun _ _ _ _ _ _ us hl => match us, hl with | [_], _ => rfl) len_total_of (Fb := F_total_of) (fun f cdv A outer s H E hr => ?_) r_total_of
  exact (pps_cons (pp_set (i := 1) nd rfl (Or.inl rfl) (pp_cst T.c_ZERO (by rfl)))
    (pps_cons (pp_for PassesOwn.never rfl (ppi_items (pp_var 0)) (ppg_name (i := 2) nd rfl (Or.inl rfl))
      (pps_one (pp_set (i := 1) nd rfl (Or.inl rfl) (pp_call (k_add.df hr (by decide)) (by rfl) (ppa_cons (pp_var 1) (ppa_cons (pp_var 2) ppa_nil))))))
    (pps_one (pp_ret (pp_var 1)))))
set_option maxHeartbeats 4000000 in
theorem kn_need_some (T : Txt K mg)  : Kn P w K mg base 1 "need_some" (spP K φ_need_some) := by
  have nd := sc_need_some.nd
  refine kn_of T.f_need_some sc_need_some (fun _ _ _ _ _ _ us hl => match us, hl with | [_], _ => rfl) len_need_some (Fb := F_need_some) (fun f cdv A outer s H E hr => ?_) r_need_some
  exact (pps_one (pp_ifS (ppt_cmp (op_eqD hr.units) a_eq (pb (pp_callB call_len c_len (by rfl) T.n_len (by decide +kernel) (pba_cons (pb (pp_var 0)) pba_nil))) (pb pp_int) (nomark _))
      pps_never
      pps_nil))
set_option maxHeartbeats 4000000 in
theorem kn_mean (T : Txt K mg) (k_need_some : Kn P w K mg base 1 "need_some" (spP K φ_need_some)) (k_over : Kn P w K mg base 2 "over" (spP K φ_over)) (k_total_of : Kn P w K mg base 3 "total_of" (spP K φ_total_of)) (k_whole : Kn P w K mg base 1 "whole" (spP K φ_whole)) : Kn P w K mg base 4 "mean" (spP K φ_mean) := by
  have nd := sc_mean.nd
  refine kn_of T.f_mean sc_mean (fun _ _ _ _ _ _ us hl => match us, hl with | [_], _ => rfl) len_mean (Fb := F_mean) (fun f cdv A outer s H E hr => ?_) r_mean
  exact (pps_cons (pp_drop (pp_call (k_need_some.df hr (by decide)) (by rfl) (ppa_cons (pp_var 0) ppa_nil)))
    (pps_one (pp_ret (pp_call (k_over.df hr (by decide)) (by rfl) (ppa_cons (pp_call (k_total_of.df hr (by decide)) (by rfl) (ppa_cons (pp_var 0) ppa_nil)) (ppa_cons (pp_call (k_whole.df hr (by decide)) (by rfl) (ppa_cons (pp_callB call_len c_len (by rfl) T.n_len (by decide +kernel) (pba_cons (pb (pp_var 0)) pba_nil)) ppa_nil)) ppa_nil))))))
set_option maxHeartbeats 4000000 in
theorem kn_products (T : Txt K mg) (k_add : Kn P w K mg base 2 "add" (spP K φ_add)) (k_mean : Kn P w K mg base 4 "mean" (spP K φ_mean)) (k_minus : Kn P w K mg base 2 "minus" (spP K φ_minus)) (k_times : Kn P w K mg base 2 "times" (spP K φ_times)) : Kn P w K mg base 5 "products" (spP K φ_products) := by
  have nd := sc_products.nd
  refine kn_of T.f_products sc_products (fun _ _ _ _ _ _ us hl => match us, hl with | [_, _], _ => rfl) len_products (Fb := F_products) (fun f cdv A outer s H E hr => ?_) r_products
  exact (pps_cons (pp_ifS (ppt_cmp (op_neD hr.units) a_ne (pb (pp_callB call_len c_len (by rfl) T.n_len (by decide +kernel) (pba_cons (pb (pp_var 0)) pba_nil))) (pb (pp_callB call_len c_len (by rfl) T.n_len (by decide +kernel) (pba_cons (pb (pp_var 1)) pba_nil))) (nomark _))
      pps_never
      pps_nil)
    (pps_cons (pp_par2 (i0 := 2) (i1 := 3) rfl nd rfl rfl (by decide) rfl rfl (ppa_cons (pp_call (k_mean.df hr (by decide)) (by rfl) (ppa_cons (pp_var 0) ppa_nil)) (ppa_cons (pp_call (k_mean.df hr (by decide)) (by rfl) (ppa_cons (pp_var 1) ppa_nil)) ppa_nil)) (by rfl))
    (pps_cons (pp_set (i := 4) nd rfl (Or.inl rfl) (pp_cst T.c_ZERO (by rfl)))
    (pps_cons (pp_for PassesOwn.never rfl (ppi_zip (by rfl) T.n_zip (ppa_cons (pp_var 0) (ppa_cons (pp_var 1) ppa_nil))) (ppg_tup rfl (ppgs_cons (i := 5) nd rfl (Or.inl rfl) (ppgs_cons (i := 6) nd rfl (Or.inl rfl) ppgs_nil)))
      (pps_one (pp_set (i := 4) nd rfl (Or.inl rfl) (pp_call (k_add.df hr (by decide)) (by rfl) (ppa_cons (pp_var 4) (ppa_cons (pp_call (k_times.df hr (by decide)) (by rfl) (ppa_cons (pp_call (k_minus.df hr (by decide)) (by rfl) (ppa_cons (pp_var 5) (ppa_cons (pp_var 2) ppa_nil))) (ppa_cons (pp_call (k_minus.df hr (by decide)) (by rfl) (ppa_cons (pp_var 6) (ppa_cons (pp_var 3) ppa_nil))) ppa_nil))) ppa_nil))))))
    (pps_one (pp_ret (pp_var 4)))))))
set_option maxHeartbeats 4000000 in
theorem kn_variance (T : Txt K mg) (k_over : Kn P w K mg base 2 "over" (spP K φ_over)) (k_products : Kn P w K mg base 5 "products" (spP K φ_products)) (k_whole : Kn P w K mg base 1 "whole" (spP K φ_whole)) : Kn P w K mg base 6 "variance" (spP K φ_variance) := by
  have nd := sc_variance.nd
  refine kn_of T.f_variance sc_variance (fun _ _ _ _ _ _ us hl => match us, hl with | [_], _ => rfl) len_variance (Fb := F_variance) (fun f cdv A outer s H E hr => ?_) r_variance
  exact (pps_one (pp_ret (pp_call (k_over.df hr (by decide)) (by rfl) (ppa_cons (pp_call (k_products.df hr (by decide)) (by rfl) (ppa_cons (pp_var 0) (ppa_cons (pp_var 0) ppa_nil))) (ppa_cons (pp_call (k_whole.df hr (by decide)) (by rfl) (ppa_cons (pp_callB call_len c_len (by rfl) T.n_len (by decide +kernel) (pba_cons (pb (pp_var 0)) pba_nil)) ppa_nil)) ppa_nil)))))
set_option maxHeartbeats 4000000 in
theorem kn_correlation (T : Txt K mg) (k_over : Kn P w K mg base 2 "over" (spP K φ_over)) (k_products : Kn P w K mg base 5 "products" (spP K φ_products)) (k_times : Kn P w K mg base 2 "times" (spP K φ_times)) : Kn P w K mg base 6 "correlation" (spP K φ_correlation) := by
  have nd := sc_correlation.nd
  refine kn_of T.f_correlation sc_correlation (fun _ _ _ _ _ _ us hl => match us, hl with | [_, _], _ => rfl) len_correlation (Fb := F_correlation) (fun f cdv A outer s H E hr => ?_) r_correlation
  exact (pps_cons (pp_set (i := 2) nd rfl (Or.inl rfl) (pp_call (k_products.df hr (by decide)) (by rfl) (ppa_cons (pp_var 0) (ppa_cons (pp_var 1) ppa_nil))))
    (pps_cons (pp_set (i := 3) nd rfl (Or.inl rfl) (pp_call (k_over.df hr (by decide)) (by rfl) (ppa_cons (pp_call (k_times.df hr (by decide)) (by rfl) (ppa_cons (pp_var 2) (ppa_cons (pp_var 2) ppa_nil))) (ppa_cons (pp_call (k_times.df hr (by decide)) (by rfl) (ppa_cons (pp_call (k_products.df hr (by decide)) (by rfl) (ppa_cons (pp_var 0) (ppa_cons (pp_var 0) ppa_nil))) (ppa_cons (pp_call (k_products.df hr (by decide)) (by rfl) (ppa_cons (pp_var 1) (ppa_cons (pp_var 1) ppa_nil))) ppa_nil))) ppa_nil))))
    (pps_one (pp_ret (pp_tup (ppa_cons (pp_op op_subB a_subB (pb (pp_cmp op_gt a_gt (pb (pp_ix ix_seq a_ix (pb (pp_var 2)) (pb pp_int))) (pb pp_int) (nomark _))) (pb (pp_cmp op_lt a_lt (pb (pp_ix ix_seq a_ix (pb (pp_var 2)) (pb pp_int))) (pb pp_int) (nomark _)))) (ppa_cons (pp_var 3) ppa_nil)))))))
set_option maxHeartbeats 4000000 in
theorem kn_check_table (T : Txt K mg)  : Kn P w K mg base 1 "check_table" (spP K φ_check_table) := by
  have nd := sc_check_table.nd
  refine kn_of T.f_check_table sc_check_table (fun _ _ _ _ _ _ us hl => match us, hl with | [_], _ => rfl) len_check_table (Fb := F_check_table) (fun f cdv A outer s H E hr => ?_) r_check_table
  exact (pps_cons (pp_ifS (PW.pt (ppw_or (ppt_cmp (op_eqD hr.units) a_eq (pb (pp_callB call_len c_len (by rfl) T.n_len (by decide +kernel) (pba_cons (pb (pp_var 0)) pba_nil))) (pb pp_int) (nomark _)) (ppw_or1 (ppt_cmp (op_eqD hr.units) a_eq (pb (pp_callB call_len c_len (by rfl) T.n_len (by decide +kernel) (pba_cons (pb (pp_ix ix_seq a_ix (pb (pp_var 0)) (pb pp_int))) pba_nil))) (pb pp_int) (nomark _)))))
      pps_never
      pps_nil)
    (pps_one (pp_ifS (ppt_not (ppt_truth (pp_callB (cr_all rfl) c_all (by rfl) T.n_all (by decide +kernel) (pba_cons (pb (pf (pf_lc (own := [("row", 1)]) (t := (.name 1)) rfl nd (by decide) (ppi_items (pp_var 0)) (blkOk_by (by kernel_rfl)) (fun _ _ _ _ _ => (ppg_name (i := 1) nd rfl (by first | exact Or.inl rfl | exact Or.inr rfl))) (fun _ _ _ _ _ => ppts_nil) (fun _ _ _ _ _ => (pp_cmp (op_eqD hr.units) a_eq (pb (pp_callB call_len c_len (by rfl) T.n_len (by decide +kernel) (pba_cons (pb (pp_var 1)) pba_nil))) (pb (pp_callB call_len c_len (by rfl) T.n_len (by decide +kernel) (pba_cons (pb (pp_ix ix_seq a_ix (pb (pp_var 0)) (pb pp_int))) pba_nil))) (nomark _)))))) pba_nil))))
      pps_never
      pps_nil)))
set_option maxHeartbeats 4000000 in
theorem kn_column (T : Txt K mg)  : Kn P w K mg base 1 "column" (spP K φ_column) := by
  have nd := sc_column.nd
  refine kn_of T.f_column sc_column (fun _ _ _ _ _ _ us hl => match us, hl with | [_, _], _ => rfl) len_column (Fb := F_column) (fun f cdv A outer s H E hr => ?_) r_column
  exact (pps_one (pp_ret (pf (pf_lc (own := [("row", 2)]) (t := (.name 2)) rfl nd (by decide) (ppi_items (pp_var 0)) (blkOk_by (by kernel_rfl)) (fun _ _ _ _ _ => (ppg_name (i := 2) nd rfl (by first | exact Or.inl rfl | exact Or.inr rfl))) (fun _ _ _ _ _ => ppts_nil) (fun _ _ _ _ _ => (pp_ix ix_seq a_ix (pb (pp_var 2)) (pb (pp_var 1))))))))
set_option maxHeartbeats 4000000 in
theorem kn_totals (T : Txt K mg) (k_total_of : Kn P w K mg base 3 "total_of" (spP K φ_total_of)) : Kn P w K mg base 4 "totals" (spP K φ_totals) := by
  have nd := sc_totals.nd
  refine kn_of T.f_totals sc_totals (fun _ _ _ _ _ _ us hl => match us, hl with | [_], _ => rfl) len_totals (Fb := F_totals) (fun f cdv A outer s H E hr => ?_) r_totals
  exact (pps_one (pp_ret (pf (pf_lc (own := [("row", 1)]) (t := (.name 1)) rfl nd (by decide) (ppi_items (pp_var 0)) (blkOk_by (by kernel_rfl)) (fun _ _ _ _ _ => (ppg_name (i := 1) nd rfl (by first | exact Or.inl rfl | exact Or.inr rfl))) (fun _ _ _ _ _ => ppts_nil) (fun _ _ _ _ _ => (pp_call (k_total_of.df hr (by decide)) (by rfl) (ppa_cons (pp_var 1) ppa_nil)))))))
set_option maxHeartbeats 4000000 in
theorem kn_rest (T : Txt K mg) (k_minus : Kn P w K mg base 2 "minus" (spP K φ_minus)) (k_total_of : Kn P w K mg base 3 "total_of" (spP K φ_total_of)) : Kn P w K mg base 4 "rest" (spP K φ_rest) := by
  have nd := sc_rest.nd
  refine kn_of T.f_rest sc_rest (fun _ _ _ _ _ _ us hl => match us, hl with | [_, _], _ => rfl) len_rest (Fb := F_rest) (fun f cdv A outer s H E hr => ?_) r_rest
  exact (pps_one (pp_ret (pf (pf_lc (own := [("row", 2)]) (t := (.name 2)) rfl nd (by decide) (ppi_items (pp_var 0)) (blkOk_by (by kernel_rfl)) (fun _ _ _ _ _ => (ppg_name (i := 2) nd rfl (by first | exact Or.inl rfl | exact Or.inr rfl))) (fun _ _ _ _ _ => ppts_nil) (fun _ _ _ _ _ => (pp_call (k_minus.df hr (by decide)) (by rfl) (ppa_cons (pp_call (k_total_of.df hr (by decide)) (by rfl) (ppa_cons (pp_var 2) ppa_nil)) (ppa_cons (pp_ix ix_seq a_ix (pb (pp_var 2)) (pb (pp_var 1))) ppa_nil))))))))
set_option maxHeartbeats 4000000 in
theorem kn_discrimination (T : Txt K mg) (k_check_table : Kn P w K mg base 1 "check_table" (spP K φ_check_table)) (k_column : Kn P w K mg base 1 "column" (spP K φ_column)) (k_correlation : Kn P w K mg base 6 "correlation" (spP K φ_correlation)) (k_rest : Kn P w K mg base 4 "rest" (spP K φ_rest)) : Kn P w K mg base 7 "discrimination" (spP K φ_discrimination) := by
  have nd := sc_discrimination.nd
  refine kn_of T.f_discrimination sc_discrimination (fun _ _ _ _ _ _ us hl => match us, hl with | [_, _], _ => rfl) len_discrimination (Fb := F_discrimination) (fun f cdv A outer s H E hr => ?_) r_discrimination
  exact (pps_cons (pp_drop (pp_call (k_check_table.df hr (by decide)) (by rfl) (ppa_cons (pp_var 0) ppa_nil)))
    (pps_one (pp_ret (pp_call (k_correlation.df hr (by decide)) (by rfl) (ppa_cons (pp_call (k_column.df hr (by decide)) (by rfl) (ppa_cons (pp_var 0) (ppa_cons (pp_var 1) ppa_nil))) (ppa_cons (pp_call (k_rest.df hr (by decide)) (by rfl) (ppa_cons (pp_var 0) (ppa_cons (pp_var 1) ppa_nil))) ppa_nil))))))
set_option maxHeartbeats 4000000 in
theorem kn_reliability (T : Txt K mg) (k_check_table : Kn P w K mg base 1 "check_table" (spP K φ_check_table)) (k_column : Kn P w K mg base 1 "column" (spP K φ_column)) (k_minus : Kn P w K mg base 2 "minus" (spP K φ_minus)) (k_over : Kn P w K mg base 2 "over" (spP K φ_over)) (k_times : Kn P w K mg base 2 "times" (spP K φ_times)) (k_total_of : Kn P w K mg base 3 "total_of" (spP K φ_total_of)) (k_totals : Kn P w K mg base 4 "totals" (spP K φ_totals)) (k_variance : Kn P w K mg base 6 "variance" (spP K φ_variance)) (k_whole : Kn P w K mg base 1 "whole" (spP K φ_whole)) : Kn P w K mg base 7 "reliability" (spP K φ_reliability) := by
  have nd := sc_reliability.nd
  refine kn_of T.f_reliability sc_reliability (fun _ _ _ _ _ _ us hl => match us, hl with | [_], _ => rfl) len_reliability (Fb := F_reliability) (fun f cdv A outer s H E hr => ?_) r_reliability
  exact (pps_cons (pp_drop (pp_call (k_check_table.df hr (by decide)) (by rfl) (ppa_cons (pp_var 0) ppa_nil)))
    (pps_cons (pp_set (i := 1) nd rfl (Or.inl rfl) (pp_callB call_len c_len (by rfl) T.n_len (by decide +kernel) (pba_cons (pb (pp_ix ix_seq a_ix (pb (pp_var 0)) (pb pp_int))) pba_nil)))
    (pps_cons (pp_ifS (ppt_cmp op_lt a_lt (pb (pp_var 1)) (pb pp_int) (nomark _))
      pps_never
      pps_nil)
    (pps_cons (pp_set (i := 2) nd rfl (Or.inl rfl) (pp_call (k_total_of.df hr (by decide)) (by rfl) (ppa_cons (pf (pf_lc (own := [("question", 4)]) (t := (.name 4)) rfl nd (by decide) (ppi_range1 (by rfl) T.n_range (ppa_cons (pp_var 1) ppa_nil)) (blkOk_by (by kernel_rfl)) (fun _ _ _ _ _ => (ppg_name (i := 4) nd rfl (by first | exact Or.inl rfl | exact Or.inr rfl))) (fun _ _ _ _ _ => ppts_nil) (fun _ _ _ _ _ => (pp_call (k_variance.df hr (by decide)) (by rfl) (ppa_cons (pp_call (k_column.df hr (by decide)) (by rfl) (ppa_cons (pp_var 0) (ppa_cons (pp_var 4) ppa_nil))) ppa_nil))))) ppa_nil)))
    (pps_cons (pp_set (i := 3) nd rfl (Or.inl rfl) (pp_call (k_variance.df hr (by decide)) (by rfl) (ppa_cons (pp_call (k_totals.df hr (by decide)) (by rfl) (ppa_cons (pp_var 0) ppa_nil)) ppa_nil)))
    (pps_one (pp_ret (pp_call (k_times.df hr (by decide)) (by rfl) (ppa_cons (pp_call (k_over.df hr (by decide)) (by rfl) (ppa_cons (pp_call (k_whole.df hr (by decide)) (by rfl) (ppa_cons (pp_var 1) ppa_nil)) (ppa_cons (pp_call (k_whole.df hr (by decide)) (by rfl) (ppa_cons (pp_op op_sub a_sub (pb (pp_var 1)) (pb pp_int)) ppa_nil)) ppa_nil))) (ppa_cons (pp_call (k_minus.df hr (by decide)) (by rfl) (ppa_cons (pp_cst T.c_ONE (by rfl)) (ppa_cons (pp_call (k_over.df hr (by decide)) (by rfl) (ppa_cons (pp_var 2) (ppa_cons (pp_var 3) ppa_nil))) ppa_nil))) ppa_nil))))))))))
set_option maxHeartbeats 4000000 in
theorem kn_reliability_without (T : Txt K mg) (k_check_table : Kn P w K mg base 1 "check_table" (spP K φ_check_table)) (k_reliability : Kn P w K mg base 7 "reliability" (spP K φ_reliability)) : Kn P w K mg base 8 "reliability_without" (spP K φ_reliability_without) := by
  have nd := sc_reliability_without.nd
  refine kn_of T.f_reliability_without sc_reliability_without (fun _ _ _ _ _ _ us hl => match us, hl with | [_, _], _ => rfl) len_reliability_without (Fb := F_reliability_without) (fun f cdv A outer s H E hr => ?_) r_reliability_without
  exact (pps_cons (pp_drop (pp_call (k_check_table.df hr (by decide)) (by rfl) (ppa_cons (pp_var 0) ppa_nil)))
    (pps_one (pp_ret (pp_call (k_reliability.df hr (by decide)) (by rfl) (ppa_cons (pf (pf_lc (own := [("row", 2)]) (t := (.name 2)) rfl nd (by decide) (ppi_items (pp_var 0)) (blkOk_by (by kernel_rfl)) (fun _ _ _ _ _ => (ppg_name (i := 2) nd rfl (by first | exact Or.inl rfl | exact Or.inr rfl))) (fun _ _ _ _ _ => ppts_nil) (fun _ _ _ _ _ => (pf (pf_lc (own := [("k", 3)]) (t := (.name 3)) rfl nd (by decide) (ppi_range1 (by rfl) T.n_range (ppa_cons (pp_callB call_len c_len (by rfl) T.n_len (by decide +kernel) (pba_cons (pb (pp_var 2)) pba_nil)) ppa_nil)) (blkOk_by (by kernel_rfl)) (fun _ _ _ _ _ => (ppg_name (i := 3) nd rfl (by first | exact Or.inl rfl | exact Or.inr rfl))) (fun _ _ _ _ _ => (ppts_one (ppt_cmp (op_neD hr.units) a_ne (pb (pp_var 3)) (pb (pp_var 1)) (nomark _)))) (fun _ _ _ _ _ => (pp_ix ix_seq a_ix (pb (pp_var 2)) (pb (pp_var 3))))))))) ppa_nil)))))
set_option maxHeartbeats 4000000 in
theorem kn_halves (T : Txt K mg) (k_check_table : Kn P w K mg base 1 "check_table" (spP K φ_check_table)) (k_total_of : Kn P w K mg base 3 "total_of" (spP K φ_total_of)) : Kn P w K mg base 4 "halves" (spP K φ_halves) := by
  have nd := sc_halves.nd
  refine kn_of T.f_halves sc_halves (fun _ _ _ _ _ _ us hl => match us, hl with | [_], _ => rfl) len_halves (Fb := F_halves) (fun f cdv A outer s H E hr => ?_) r_halves
  exact (pps_cons (pp_drop (pp_call (k_check_table.df hr (by decide)) (by rfl) (ppa_cons (pp_var 0) ppa_nil)))
    (pps_cons (pp_xpar2 (i0 := 1) (i1 := 2) rfl nd rfl rfl (by decide) rfl rfl (pf_lst ppa_nil) (pf_lst ppa_nil) (by rfl))
    (pps_cons (pp_for PassesOwn.never rfl (ppi_items (pp_var 0)) (ppg_name (i := 3) nd rfl (Or.inr rfl))
      (pps_cons (pp_mut (i := 1) PySem.F.slot_list_append PySem.F.type_list_append mt_append m_append rfl (Or.inl rfl) (ppa_cons (pp_call (k_total_of.df hr (by decide)) (by rfl) (ppa_cons (pf (pf_lc (own := [("k", 4)]) (t := (.name 4)) rfl nd (by decide) (ppi_two (by rfl) T.n_range (ppa_cons pp_int (ppa_cons (pp_callB call_len c_len (by rfl) T.n_len (by decide +kernel) (pba_cons (pb (pp_var 3)) pba_nil)) (ppa_cons pp_int ppa_nil)))) (blkOk_by (by kernel_rfl)) (fun _ _ _ _ _ => (ppg_name (i := 4) nd rfl (by first | exact Or.inl rfl | exact Or.inr rfl))) (fun _ _ _ _ _ => ppts_nil) (fun _ _ _ _ _ => (pp_ix ix_seq a_ix (pb (pp_var 3)) (pb (pp_var 4)))))) ppa_nil)) ppa_nil))
    (pps_one (pp_mut (i := 2) PySem.F.slot_list_append PySem.F.type_list_append mt_append m_append rfl (Or.inl rfl) (ppa_cons (pp_call (k_total_of.df hr (by decide)) (by rfl) (ppa_cons (pf (pf_lc (own := [("k", 4)]) (t := (.name 4)) rfl nd (by decide) (ppi_two (by rfl) T.n_range (ppa_cons pp_int (ppa_cons (pp_callB call_len c_len (by rfl) T.n_len (by decide +kernel) (pba_cons (pb (pp_var 3)) pba_nil)) (ppa_cons pp_int ppa_nil)))) (blkOk_by (by kernel_rfl)) (fun _ _ _ _ _ => (ppg_name (i := 4) nd rfl (by first | exact Or.inl rfl | exact Or.inr rfl))) (fun _ _ _ _ _ => ppts_nil) (fun _ _ _ _ _ => (pp_ix ix_seq a_ix (pb (pp_var 3)) (pb (pp_var 4)))))) ppa_nil)) ppa_nil)))))
    (pps_frz 1 (pps_frz 2 (pps_one (pp_ret (pp_tup (ppa_cons (pp_var 1) (ppa_cons (pp_var 2) ppa_nil))))))))))
set_option maxHeartbeats 4000000 in
theorem kn_lengthened (T : Txt K mg) (k_add : Kn P w K mg base 2 "add" (spP K φ_add)) (k_minus : Kn P w K mg base 2 "minus" (spP K φ_minus)) (k_over : Kn P w K mg base 2 "over" (spP K φ_over)) (k_times : Kn P w K mg base 2 "times" (spP K φ_times)) : Kn P w K mg base 3 "lengthened" (spP K φ_lengthened) := by
  have nd := sc_lengthened.nd
  refine kn_of T.f_lengthened sc_lengthened (fun _ _ _ _ _ _ us hl => match us, hl with | [_, _], _ => rfl) len_lengthened (Fb := F_lengthened) (fun f cdv A outer s H E hr => ?_) r_lengthened
  exact (pps_cons (pp_set (i := 2) nd rfl (Or.inl rfl) (pp_call (k_times.df hr (by decide)) (by rfl) (ppa_cons (pp_var 1) (ppa_cons (pp_var 0) ppa_nil))))
    (pps_one (pp_ret (pp_call (k_over.df hr (by decide)) (by rfl) (ppa_cons (pp_var 2) (ppa_cons (pp_call (k_add.df hr (by decide)) (by rfl) (ppa_cons (pp_cst T.c_ONE (by rfl)) (ppa_cons (pp_call (k_times.df hr (by decide)) (by rfl) (ppa_cons (pp_call (k_minus.df hr (by decide)) (by rfl) (ppa_cons (pp_var 1) (ppa_cons (pp_cst T.c_ONE (by rfl)) ppa_nil))) (ppa_cons (pp_var 0) ppa_nil))) ppa_nil))) ppa_nil))))))
set_option maxHeartbeats 4000000 in
theorem kn_l_mod (T : Txt K mg)  : Kn P w K mg base 1 "_law_mod" (spP K φ_l_mod) := by
  have nd := sc_l_mod.nd
  refine kn_of T.f_l_mod sc_l_mod (fun _ _ _ _ _ _ us hl => match us, hl with | [_, _], _ => rfl) len_l_mod (Fb := F_l_mod) (fun f cdv A outer s H E hr => ?_) r_l_mod
  exact (pps_one (pp_ret (pp_op op_sub a_sub (pb (pp_var 0)) (pb (pp_op op_mulA a_mul (pb (pp_op op_fdivW a_fdiv (pb (pp_var 0)) (pb (pp_var 1)))) (pb (pp_var 1)))))))
set_option maxHeartbeats 4000000 in
theorem kn_l_gcd (T : Txt K mg) (k_l_mod : Kn P w K mg base 1 "_law_mod" (spP K φ_l_mod)) : Kn P w K mg base 2 "_law_gcd" (spP K φ_l_gcd) := by
  have nd := sc_l_gcd.nd
  refine kn_of T.f_l_gcd sc_l_gcd (fun _ _ _ _ _ _ us hl => match us, hl with | [_, _], _ => rfl) len_l_gcd (Fb := F_l_gcd) (fun f cdv A outer s H E hr => ?_) r_l_gcd
  exact (pps_cons (pp_for PassesOwn.never rfl (ppi_range1 (by rfl) T.n_range (ppa_cons pp_int ppa_nil)) (ppg_name (i := 2) nd rfl (Or.inl rfl))
      (pps_one (pp_ifS (ppt_cmp (op_neD hr.units) a_ne (pb (pp_var 1)) (pb pp_int) (nomark _))
      (pps_one (pp_par2 (i0 := 0) (i1 := 1) rfl nd rfl rfl (by decide) rfl rfl (ppa_cons (pp_var 1) (ppa_cons (pp_call (k_l_mod.df hr (by decide)) (by rfl) (ppa_cons (pp_var 0) (ppa_cons (pp_var 1) ppa_nil))) ppa_nil)) (by rfl)))
      pps_nil)))
    (pps_one (pp_ret (pp_var 0))))
set_option maxHeartbeats 4000000 in
theorem kn_l_frac (T : Txt K mg) (k_l_gcd : Kn P w K mg base 2 "_law_gcd" (spP K φ_l_gcd)) : Kn P w K mg base 3 "_law_frac" (spP K φ_l_frac) := by
  have nd := sc_l_frac.nd
  refine kn_of T.f_l_frac sc_l_frac (fun _ _ _ _ _ _ us hl => match us, hl with | [_, _], _ => rfl) len_l_frac (Fb := F_l_frac) (fun f cdv A outer s H E hr => ?_) r_l_frac
  exact (pps_cons (pp_ifS (ppt_cmp op_lt a_lt (pb (pp_var 1)) (pb pp_int) (nomark _))
      (pps_one (pp_par2 (i0 := 0) (i1 := 1) rfl nd rfl rfl (by decide) rfl rfl (ppa_cons (pp_op op_sub a_sub (pb pp_int) (pb (pp_var 0))) (ppa_cons (pp_op op_sub a_sub (pb pp_int) (pb (pp_var 1))) ppa_nil)) (by rfl)))
      pps_nil)
    (pps_cons (pp_set (i := 2) nd rfl (Or.inl rfl) (pp_call (k_l_gcd.df hr (by decide)) (by rfl) (ppa_cons (pp_callB call_abs c_abs (by rfl) T.n_abs (by decide +kernel) (pba_cons (pb (pp_var 0)) pba_nil)) (ppa_cons (pp_var 1) ppa_nil))))
    (pps_one (pp_ret (pp_tup (ppa_cons (pp_op op_fdivW a_fdiv (pb (pp_var 0)) (pb (pp_var 2))) (ppa_cons (pp_op op_fdivW a_fdiv (pb (pp_var 1)) (pb (pp_var 2))) ppa_nil)))))))
set_option maxHeartbeats 4000000 in
theorem kn_l_add (T : Txt K mg) (k_l_frac : Kn P w K mg base 3 "_law_frac" (spP K φ_l_frac)) : Kn P w K mg base 4 "_law_add" (spP K φ_l_add) := by
  have nd := sc_l_add.nd
  refine kn_of T.f_l_add sc_l_add (fun _ _ _ _ _ _ us hl => match us, hl with | [_, _], _ => rfl) len_l_add (Fb := F_l_add) (fun f cdv A outer s H E hr => ?_) r_l_add
  exact (pps_one (pp_ret (pp_call (k_l_frac.df hr (by decide)) (by rfl) (ppa_cons (pp_op op_addA a_add (pb (pp_op op_mulA a_mul (pb (pp_ix ix_seq a_ix (pb (pp_var 0)) (pb pp_int))) (pb (pp_ix ix_seq a_ix (pb (pp_var 1)) (pb pp_int))))) (pb (pp_op op_mulA a_mul (pb (pp_ix ix_seq a_ix (pb (pp_var 1)) (pb pp_int))) (pb (pp_ix ix_seq a_ix (pb (pp_var 0)) (pb pp_int)))))) (ppa_cons (pp_op op_mulA a_mul (pb (pp_ix ix_seq a_ix (pb (pp_var 0)) (pb pp_int))) (pb (pp_ix ix_seq a_ix (pb (pp_var 1)) (pb pp_int)))) ppa_nil)))))
set_option maxHeartbeats 4000000 in
theorem kn_l_mul (T : Txt K mg) (k_l_frac : Kn P w K mg base 3 "_law_frac" (spP K φ_l_frac)) : Kn P w K mg base 4 "_law_mul" (spP K φ_l_mul) := by
  have nd := sc_l_mul.nd
  refine kn_of T.f_l_mul sc_l_mul (fun _ _ _ _ _ _ us hl => match us, hl with | [_, _], _ => rfl) len_l_mul (Fb := F_l_mul) (fun f cdv A outer s H E hr => ?_) r_l_mul
  exact (pps_one (pp_ret (pp_call (k_l_frac.df hr (by decide)) (by rfl) (ppa_cons (pp_op op_mulA a_mul (pb (pp_ix ix_seq a_ix (pb (pp_var 0)) (pb pp_int))) (pb (pp_ix ix_seq a_ix (pb (pp_var 1)) (pb pp_int)))) (ppa_cons (pp_op op_mulA a_mul (pb (pp_ix ix_seq a_ix (pb (pp_var 0)) (pb pp_int))) (pb (pp_ix ix_seq a_ix (pb (pp_var 1)) (pb pp_int)))) ppa_nil)))))
set_option maxHeartbeats 4000000 in
theorem kn_l_lt (T : Txt K mg)  : Kn P w K mg base 1 "_law_lt" (spP K φ_l_lt) := by
  have nd := sc_l_lt.nd
  refine kn_of T.f_l_lt sc_l_lt (fun _ _ _ _ _ _ us hl => match us, hl with | [_, _], _ => rfl) len_l_lt (Fb := F_l_lt) (fun f cdv A outer s H E hr => ?_) r_l_lt
  exact (pps_one (pp_ret (pp_cmp op_lt a_lt (pb (pp_op op_mulA a_mul (pb (pp_ix ix_seq a_ix (pb (pp_var 0)) (pb pp_int))) (pb (pp_ix ix_seq a_ix (pb (pp_var 1)) (pb pp_int))))) (pb (pp_op op_mulA a_mul (pb (pp_ix ix_seq a_ix (pb (pp_var 1)) (pb pp_int))) (pb (pp_ix ix_seq a_ix (pb (pp_var 0)) (pb pp_int))))) (nomark _))))
set_option maxHeartbeats 4000000 in
theorem kn_l_fraction (T : Txt K mg) (k_l_draw : Kn P w K mg base 1 "_law_draw" (spP K φ_l_draw)) (k_l_frac : Kn P w K mg base 3 "_law_frac" (spP K φ_l_frac)) : Kn P w K mg base 4 "_law_fraction" (spP K φ_l_fraction) := by
  have nd := sc_l_fraction.nd
  refine kn_of T.f_l_fraction sc_l_fraction (fun _ _ _ _ _ _ us hl => match us, hl with | [_, _], _ => rfl) len_l_fraction (Fb := F_l_fraction) (fun f cdv A outer s H E hr => ?_) r_l_fraction
  exact (pps_cons (pp_set (i := 2) nd rfl (Or.inl rfl) (pp_op op_addA a_add (pb pp_int) (pb (pp_call (k_l_draw.df hr (by decide)) (by rfl) (ppa_cons (pp_var 0) (ppa_cons pp_int ppa_nil))))))
    (pps_one (pp_ret (pp_call (k_l_frac.df hr (by decide)) (by rfl) (ppa_cons (pp_call (k_l_draw.df hr (by decide)) (by rfl) (ppa_cons (pp_var 0) (ppa_cons (pp_op op_addA a_add (pb (pp_op op_mulA a_mul (pb (pp_var 1)) (pb (pp_var 2)))) (pb pp_int)) ppa_nil))) (ppa_cons (pp_var 2) ppa_nil))))))
set_option maxHeartbeats 4000000 in
theorem kn_l_stirred (T : Txt K mg) (k_l_draw : Kn P w K mg base 1 "_law_draw" (spP K φ_l_draw)) : Kn P w K mg base 2 "_law_stirred" (spP K φ_l_stirred) := by
  have nd := sc_l_stirred.nd
  refine kn_of T.f_l_stirred sc_l_stirred (fun _ _ _ _ _ _ us hl => match us, hl with | [_, _], _ => rfl) len_l_stirred (Fb := F_l_stirred) (fun f cdv A outer s H E hr => ?_) r_l_stirred
  exact (pps_cons (pp_xpar2 (i0 := 2) (i1 := 3) rfl nd rfl rfl (by decide) rfl rfl (pf_lst ppa_nil) (pf_callTy call_list_of f_list (by rfl) T.n_list (by decide +kernel) (pba_cons (pb (pp_var 1)) pba_nil)) (by rfl))
    (pps_cons (pp_while PassesOwn.never (ppt_cmp op_gt a_gt (pb (pp_callB call_len c_len (by rfl) T.n_len (by decide +kernel) (pba_cons (pb_own 3) pba_nil))) (pb pp_int) (nomark _))
      (pps_one (pp_appPop (i := 2) (j := 3) (by decide) rfl (Or.inl rfl) rfl (Or.inl rfl) (ppa_cons (pp_call (k_l_draw.df hr (by decide)) (by rfl) (ppa_cons (pp_var 0) (ppa_cons (pp_callB call_len c_len (by rfl) T.n_len (by decide +kernel) (pba_cons (pb_own 3) pba_nil)) ppa_nil))) ppa_nil))))
    (pps_frz 2 (pps_one (pp_ret (pp_var 2))))))
set_option maxHeartbeats 4000000 in
theorem knx_fraction (T : Txt K mg)  : KnX P w K mg base 1 "fraction" "BadNumber" ψ_fraction := by
  have nd := sc_fraction.nd
  refine knx_of T.f_fraction sc_fraction (fun _ _ _ _ _ _ us hl => match us, hl with | [_, _], _ => rfl) lenx_fraction (Fb := FX_fraction) (fun f cdv A outer s H E hr => ?_) rx_fraction
  delta FX_fraction
  refine (px_if rfl takes_X T.e_BadNumber (by rfl) ?_)
  exact (ppt_cmp (op_eqD hr.units) a_eq (pb (pp_var 1)) (pb pp_int) (nomark _))
set_option maxHeartbeats 4000000 in
theorem knx_over (T : Txt K mg) (kx_fraction : KnX P w K mg base 1 "fraction" "BadNumber" ψ_fraction) : KnX P w K mg base 2 "over" "BadNumber" ψ_over := by
  have nd := sc_over.nd
  refine knx_of T.f_over sc_over (fun _ _ _ _ _ _ us hl => match us, hl with | [_, _], _ => rfl) lenx_over (Fb := FX_over) (fun f cdv A outer s H E hr => ?_) rx_over
  delta FX_over
  exact (px_ret (px_call (kx_fraction.df hr (by decide)) takes_X (by rfl) (ppa_cons (pp_op op_mulA a_mul (pb (pp_ix ix_seq a_ix (pb (pp_var 0)) (pb pp_int))) (pb (pp_ix ix_seq a_ix (pb (pp_var 1)) (pb pp_int)))) (ppa_cons (pp_op op_mulA a_mul (pb (pp_ix ix_seq a_ix (pb (pp_var 0)) (pb pp_int))) (pb (pp_ix ix_seq a_ix (pb (pp_var 1)) (pb pp_int)))) ppa_nil))))
set_option maxHeartbeats 4000000 in
theorem knx_reliability (T : Txt K mg) (k_check_table : Kn P w K mg base 1 "check_table" (spP K φ_check_table)) (k_column : Kn P w K mg base 1 "column" (spP K φ_column)) (k_minus : Kn P w K mg base 2 "minus" (spP K φ_minus)) (k_over : Kn P w K mg base 2 "over" (spP K φ_over)) (k_times : Kn P w K mg base 2 "times" (spP K φ_times)) (k_total_of : Kn P w K mg base 3 "total_of" (spP K φ_total_of)) (k_totals : Kn P w K mg base 4 "totals" (spP K φ_totals)) (k_variance : Kn P w K mg base 6 "variance" (spP K φ_variance)) (k_whole : Kn P w K mg base 1 "whole" (spP K φ_whole)) (kx_over : KnX P w K mg base 2 "over" "BadNumber" ψ_over) : KnX P w K mg base 7 "reliability" "BadNumber" ψ_reliability := by
  have nd := sc_reliability.nd
  refine knx_of T.f_reliability sc_reliability (fun _ _ _ _ _ _ us hl => match us, hl with | [_], _ => rfl) lenx_reliability (Fb := FX_reliability) (fun f cdv A outer s H E hr => ?_) rx_reliability
  delta FX_reliability
  exact (px_cons (pp_drop (pp_call (k_check_table.df hr (by decide)) (by rfl) (ppa_cons (pp_var 0) ppa_nil))) (px_cons (pp_set (i := 1) nd rfl (Or.inl rfl) (pp_callB call_len c_len (by rfl) T.n_len (by decide +kernel) (pba_cons (pb (pp_ix ix_seq a_ix (pb (pp_var 0)) (pb pp_int))) pba_nil))) (px_ifc rfl takes_X T.e_BadNumber (by rfl) (ppt_cmp op_lt a_lt (pb (pp_var 1)) (pb pp_int) (nomark _)) (px_cons (pp_set (i := 2) nd rfl (Or.inl rfl) (pp_call (k_total_of.df hr (by decide)) (by rfl) (ppa_cons (pf (pf_lc (own := [("question", 4)]) (t := (.name 4)) rfl nd (by decide) (ppi_range1 (by rfl) T.n_range (ppa_cons (pp_var 1) ppa_nil)) (blkOk_by (by kernel_rfl)) (fun _ _ _ _ _ => (ppg_name (i := 4) nd rfl (by first | exact Or.inl rfl | exact Or.inr rfl))) (fun _ _ _ _ _ => ppts_nil) (fun _ _ _ _ _ => (pp_call (k_variance.df hr (by decide)) (by rfl) (ppa_cons (pp_call (k_column.df hr (by decide)) (by rfl) (ppa_cons (pp_var 0) (ppa_cons (pp_var 4) ppa_nil))) ppa_nil))))) ppa_nil))) (px_cons (pp_set (i := 3) nd rfl (Or.inl rfl) (pp_call (k_variance.df hr (by decide)) (by rfl) (ppa_cons (pp_call (k_totals.df hr (by decide)) (by rfl) (ppa_cons (pp_var 0) ppa_nil)) ppa_nil))) (px_ret (px_arg (k_times.df hr (by decide)) (by rfl) (pxa_next (pp_call (k_over.df hr (by decide)) (by rfl) (ppa_cons (pp_call (k_whole.df hr (by decide)) (by rfl) (ppa_cons (pp_var 1) ppa_nil)) (ppa_cons (pp_call (k_whole.df hr (by decide)) (by rfl) (ppa_cons (pp_op op_sub a_sub (pb (pp_var 1)) (pb pp_int)) ppa_nil)) ppa_nil))) (pxa_here (px_arg (k_minus.df hr (by decide)) (by rfl) (pxa_next (pp_cst T.c_ONE (by rfl)) (pxa_here (px_call (kx_over.df hr (by decide)) takes_X (by rfl) (ppa_cons (pp_var 2) (ppa_cons (pp_var 3) ppa_nil))) ppa_nil))) ppa_nil)))))))))
set_option maxHeartbeats 4000000 in
theorem knx_reliability_without (T : Txt K mg) (k_check_table : Kn P w K mg base 1 "check_table" (spP K φ_check_table)) (kx_reliability : KnX P w K mg base 7 "reliability" "BadNumber" ψ_reliability) : KnX P w K mg base 8 "reliability_without" "BadNumber" ψ_reliability_without := by
  have nd := sc_reliability_without.nd
  refine knx_of T.f_reliability_without sc_reliability_without (fun _ _ _ _ _ _ us hl => match us, hl with | [_, _], _ => rfl) lenx_reliability_without (Fb := FX_reliability_without) (fun f cdv A outer s H E hr => ?_) rx_reliability_without
  delta FX_reliability_without
  exact (px_cons (pp_drop (pp_call (k_check_table.df hr (by decide)) (by rfl) (ppa_cons (pp_var 0) ppa_nil))) (px_ret (px_call (kx_reliability.df hr (by decide)) takes_X (by rfl) (ppa_cons (pf (pf_lc (own := [("row", 2)]) (t := (.name 2)) rfl nd (by decide) (ppi_items (pp_var 0)) (blkOk_by (by kernel_rfl)) (fun _ _ _ _ _ => (ppg_name (i := 2) nd rfl (by first | exact Or.inl rfl | exact Or.inr rfl))) (fun _ _ _ _ _ => ppts_nil) (fun _ _ _ _ _ => (pf (pf_lc (own := [("k", 3)]) (t := (.name 3)) rfl nd (by decide) (ppi_range1 (by rfl) T.n_range (ppa_cons (pp_callB call_len c_len (by rfl) T.n_len (by decide +kernel) (pba_cons (pb (pp_var 2)) pba_nil)) ppa_nil)) (blkOk_by (by kernel_rfl)) (fun _ _ _ _ _ => (ppg_name (i := 3) nd rfl (by first | exact Or.inl rfl | exact Or.inr rfl))) (fun _ _ _ _ _ => (ppts_one (ppt_cmp (op_neD hr.units) a_ne (pb (pp_var 3)) (pb (pp_var 1)) (nomark _)))) (fun _ _ _ _ _ => (pp_ix ix_seq a_ix (pb (pp_var 2)) (pb (pp_var 3))))))))) ppa_nil))))
set_option maxHeartbeats 4000000 in
theorem knx_correlation (T : Txt K mg) (k_products : Kn P w K mg base 5 "products" (spP K φ_products)) (k_times : Kn P w K mg base 2 "times" (spP K φ_times)) (kx_over : KnX P w K mg base 2 "over" "BadNumber" ψ_over) : KnX P w K mg base 6 "correlation" "BadNumber" ψ_correlation := by
  have nd := sc_correlation.nd
  refine knx_of T.f_correlation sc_correlation (fun _ _ _ _ _ _ us hl => match us, hl with | [_, _], _ => rfl) lenx_correlation (Fb := FX_correlation) (fun f cdv A outer s H E hr => ?_) rx_correlation
  delta FX_correlation
  exact (px_cons (pp_set (i := 2) nd rfl (Or.inl rfl) (pp_call (k_products.df hr (by decide)) (by rfl) (ppa_cons (pp_var 0) (ppa_cons (pp_var 1) ppa_nil)))) (px_set (i := 3) nd rfl (Or.inl rfl) (px_call (kx_over.df hr (by decide)) takes_X (by rfl) (ppa_cons (pp_call (k_times.df hr (by decide)) (by rfl) (ppa_cons (pp_var 2) (ppa_cons (pp_var 2) ppa_nil))) (ppa_cons (pp_call (k_times.df hr (by decide)) (by rfl) (ppa_cons (pp_call (k_products.df hr (by decide)) (by rfl) (ppa_cons (pp_var 0) (ppa_cons (pp_var 0) ppa_nil))) (ppa_cons (pp_call (k_products.df hr (by decide)) (by rfl) (ppa_cons (pp_var 1) (ppa_cons (pp_var 1) ppa_nil))) ppa_nil))) ppa_nil)))))
set_option maxHeartbeats 4000000 in
theorem knx_discrimination (T : Txt K mg) (k_check_table : Kn P w K mg base 1 "check_table" (spP K φ_check_table)) (k_column : Kn P w K mg base 1 "column" (spP K φ_column)) (k_rest : Kn P w K mg base 4 "rest" (spP K φ_rest)) (kx_correlation : KnX P w K mg base 6 "correlation" "BadNumber" ψ_correlation) : KnX P w K mg base 7 "discrimination" "BadNumber" ψ_discrimination := by
  have nd := sc_discrimination.nd
  refine knx_of T.f_discrimination sc_discrimination (fun _ _ _ _ _ _ us hl => match us, hl with | [_, _], _ => rfl) lenx_discrimination (Fb := FX_discrimination) (fun f cdv A outer s H E hr => ?_) rx_discrimination
  delta FX_discrimination
  exact (px_cons (pp_drop (pp_call (k_check_table.df hr (by decide)) (by rfl) (ppa_cons (pp_var 0) ppa_nil))) (px_ret (px_call (kx_correlation.df hr (by decide)) takes_X (by rfl) (ppa_cons (pp_call (k_column.df hr (by decide)) (by rfl) (ppa_cons (pp_var 0) (ppa_cons (pp_var 1) ppa_nil))) (ppa_cons (pp_call (k_rest.df hr (by decide)) (by rfl) (ppa_cons (pp_var 0) (ppa_cons (pp_var 1) ppa_nil))) ppa_nil)))))
set_option maxHeartbeats 4000000 in
theorem kn_l_reliable (T : Txt K mg) (k_reliability : Kn P w K mg base 7 "reliability" (spP K φ_reliability)) (kx_reliability : KnX P w K mg base 7 "reliability" "BadNumber" ψ_reliability) : Kn P w K mg base 8 "_law_reliable" (spP K φ_l_reliable) := by
  have nd := sc_l_reliable.nd
  refine kn_try T.f_l_reliable sc_l_reliable (fun _ _ _ _ _ _ us hl => match us, hl with | [_], _ => rfl) len_l_reliable (Fb := F_l_reliable) (Fx := FX_l_reliable) (fun f cdv A outer s H E hr => ?_) (fun f cdv A outer s H E hr => ?_) r_l_reliable rx_l_reliable
  · exact pps_one (pp_try (pps_one (pp_ret (pp_call (k_reliability.df hr (by decide)) (by rfl) (ppa_cons (pp_var 0) ppa_nil)))))
  · delta FX_l_reliable
    exact px_try T.e_BadNumber rfl rfl (by rfl) (fun W pn xe tk => px_ret (px_call (kx_reliability.df hr (by decide)) tk (by rfl) (ppa_cons (pp_var 0) ppa_nil)))
set_option maxHeartbeats 4000000 in
theorem kn_l_without (T : Txt K mg) (k_reliability_without : Kn P w K mg base 8 "reliability_without" (spP K φ_reliability_without)) (kx_reliability_without : KnX P w K mg base 8 "reliability_without" "BadNumber" ψ_reliability_without) : Kn P w K mg base 9 "_law_without" (spP K φ_l_without) := by
  have nd := sc_l_without.nd
  refine kn_try T.f_l_without sc_l_without (fun _ _ _ _ _ _ us hl => match us, hl with | [_, _], _ => rfl) len_l_without (Fb := F_l_without) (Fx := FX_l_without) (fun f cdv A outer s H E hr => ?_) (fun f cdv A outer s H E hr => ?_) r_l_without rx_l_without
  · exact pps_one (pp_try (pps_one (pp_ret (pp_call (k_reliability_without.df hr (by decide)) (by rfl) (ppa_cons (pp_var 0) (ppa_cons (pp_var 1) ppa_nil))))))
  · delta FX_l_without
    exact px_try T.e_BadNumber rfl rfl (by rfl) (fun W pn xe tk => px_ret (px_call (kx_reliability_without.df hr (by decide)) tk (by rfl) (ppa_cons (pp_var 0) (ppa_cons (pp_var 1) ppa_nil))))
set_option maxHeartbeats 4000000 in
theorem kn_l_sharp (T : Txt K mg) (k_discrimination : Kn P w K mg base 7 "discrimination" (spP K φ_discrimination)) (kx_discrimination : KnX P w K mg base 7 "discrimination" "BadNumber" ψ_discrimination) : Kn P w K mg base 8 "_law_sharp" (spP K φ_l_sharp) := by
  have nd := sc_l_sharp.nd
  refine kn_try T.f_l_sharp sc_l_sharp (fun _ _ _ _ _ _ us hl => match us, hl with | [_, _], _ => rfl) len_l_sharp (Fb := F_l_sharp) (Fx := FX_l_sharp) (fun f cdv A outer s H E hr => ?_) (fun f cdv A outer s H E hr => ?_) r_l_sharp rx_l_sharp
  · exact pps_one (pp_try (pps_one (pp_ret (pp_call (k_discrimination.df hr (by decide)) (by rfl) (ppa_cons (pp_var 0) (ppa_cons (pp_var 1) ppa_nil))))))
  · delta FX_l_sharp
    exact px_try T.e_BadNumber rfl rfl (by rfl) (fun W pn xe tk => px_ret (px_call (kx_discrimination.df hr (by decide)) tk (by rfl) (ppa_cons (pp_var 0) (ppa_cons (pp_var 1) ppa_nil))))
set_option maxHeartbeats 8000000 in
theorem ok_law {f : Addr} {fd : FuncData} (F : FunD K "law" "law" (defArgs s_law) (defBody s_law) (defScope s_law) [] [] f fd) (T : Txt K mg) (k_tape : Kn P w K mg base 1 "_law_tape" (spTape K)) (k_l_add : Kn P w K mg base 4 "_law_add" (spP K φ_l_add)) (k_l_draw : Kn P w K mg base 1 "_law_draw" (spP K φ_l_draw)) (k_l_frac : Kn P w K mg base 3 "_law_frac" (spP K φ_l_frac)) (k_l_fraction : Kn P w K mg base 4 "_law_fraction" (spP K φ_l_fraction)) (k_l_lt : Kn P w K mg base 1 "_law_lt" (spP K φ_l_lt)) (k_l_mul : Kn P w K mg base 4 "_law_mul" (spP K φ_l_mul)) (k_l_reliable : Kn P w K mg base 8 "_law_reliable" (spP K φ_l_reliable)) (k_l_sharp : Kn P w K mg base 8 "_law_sharp" (spP K φ_l_sharp)) (k_l_stirred : Kn P w K mg base 2 "_law_stirred" (spP K φ_l_stirred)) (k_l_without : Kn P w K mg base 9 "_law_without" (spP K φ_l_without)) (k_column : Kn P w K mg base 1 "column" (spP K φ_column)) (k_halves : Kn P w K mg base 4 "halves" (spP K φ_halves)) (k_lengthened : Kn P w K mg base 3 "lengthened" (spP K φ_lengthened)) (k_totals : Kn P w K mg base 4 "totals" (spP K φ_totals)) : FnOk P w K mg base CX0 10 f fd ["script"] (spLaw K) := by
  have nd := sc_law.nd
  obtain ⟨fT, fdT, psT, FT, mT, kT, bT⟩ := k_tape.ex
  refine law_ok F sc_law (by decide) (Fb := F_law) (fun cdv A outer s H E hr => ?_) r_law
  delta F_law S_law_0 S_law_1 S_law_2 S_law_3 S_law_4 S_law_5_0 S_law_5_1 R_law_5_1 R_law_5_0 B_law_5 S_law_5 S_law_7 S_law_8_0 R_law_8_0 B_law_8 S_law_8 S_law_9 S_law_10 S_law_11 S_law_12 S_law_13 S_law_14 R_law_14 R_law_13 R_law_12 R_law_11 R_law_10 R_law_9 R_law_8 R_law_7 R_law_6 R_law_5 R_law_4 R_law_3 R_law_2 R_law_1 R_law_0
  exact pss_cons (ps_set (i := 1) nd rfl (Or.inr rfl) (pe_call FT (hr.mono (by decide)) (by rfl) mT kT bT .nil pass0 (pa_cons (pv 0) pa_nil)))
    (pps_cons (pp_set (i := 2) nd rfl (Or.inr rfl) (pp_op op_addA a_add (pb pp_int) (pb (pp_call (k_l_draw.df hr (by decide)) (by rfl) (ppa_cons (pp_var 1) (ppa_cons pp_int ppa_nil))))))
    (pps_cons (pp_setLc (i := 3) (own := [("n", 18)]) (t := (.name 18)) rfl nd (by decide) rfl rfl (sw_true rfl rfl rfl (by decide +kernel)) (ppi_range1 (by rfl) T.n_range (ppa_cons (pp_op op_addA a_add (pb pp_int) (pb (pp_call (k_l_draw.df hr (by decide)) (by rfl) (ppa_cons (pp_var 1) (ppa_cons pp_int ppa_nil))))) ppa_nil)) (blkOk_by (by kernel_rfl)) (fun _ _ _ _ _ => (ppg_name (i := 18) nd rfl (by first | exact Or.inl rfl | exact Or.inr rfl))) (fun _ _ _ _ _ => ppts_nil) (fun _ _ _ _ _ => (pf (pf_lc (own := [("k", 12)]) (t := (.name 12)) rfl nd (by decide) (ppi_range1 (by rfl) T.n_range (ppa_cons (pp_var 2) ppa_nil)) (blkOk_by (by kernel_rfl)) (fun _ _ _ _ _ => (ppg_name (i := 12) nd rfl (by first | exact Or.inl rfl | exact Or.inr rfl))) (fun _ _ _ _ _ => ppts_nil) (fun _ _ _ _ _ => (pp_call (k_l_fraction.df hr (by decide)) (by rfl) (ppa_cons (pp_var 1) (ppa_cons pp_int ppa_nil))))))))
    (pps_cons (pp_par2 (i0 := 4) (i1 := 5) rfl nd rfl rfl (by decide) rfl rfl (ppa_cons (pp_call (k_l_stirred.df hr (by decide)) (by rfl) (ppa_cons (pp_var 1) (ppa_cons (pf (pf_listRng rfl (by rfl) T.n_list (by rfl) T.n_range (pp_var 2))) ppa_nil))) (ppa_cons (pp_call (k_l_stirred.df hr (by decide)) (by rfl) (ppa_cons (pp_var 1) (ppa_cons (pp_var 3) ppa_nil))) ppa_nil)) (by rfl))
    (pps_cons (pp_asg (pp_tup (ppa_cons (pp_call (k_l_draw.df hr (by decide)) (by rfl) (ppa_cons (pp_var 1) (ppa_cons (pp_var 2) ppa_nil))) (ppa_cons (pp_call (k_l_fraction.df hr (by decide)) (by rfl) (ppa_cons (pp_var 1) (ppa_cons pp_int ppa_nil))) (ppa_cons (pp_call (k_l_frac.df hr (by decide)) (by rfl) (ppa_cons (pp_op op_addA a_add (pb pp_int) (pb (pp_call (k_l_draw.df hr (by decide)) (by rfl) (ppa_cons (pp_var 1) (ppa_cons pp_int ppa_nil))))) (ppa_cons pp_int ppa_nil))) ppa_nil)))) (ppg_tup rfl (ppgs_cons (i := 6) nd rfl (Or.inr rfl) (ppgs_cons (i := 7) nd rfl (Or.inr rfl) (ppgs_cons (i := 8) nd rfl (Or.inr rfl) ppgs_nil)))))
    (pps_cons (pp_setO (i := 9) nd rfl (Or.inl rfl) (pf_lst ppa_nil))
    (pps_cons (pp_for PassesOwn.never rfl (ppi_items (pp_var 5)) (ppg_name (i := 10) nd rfl (Or.inr rfl))
      (pps_cons (pp_set (i := 11) nd rfl (Or.inr rfl) (pf (pf_lc (own := [("k", 12)]) (t := (.name 12)) rfl nd (by decide) (ppi_range1 (by rfl) T.n_range (ppa_cons (pp_var 2) ppa_nil)) (blkOk_by (by kernel_rfl)) (fun _ _ _ _ _ => (ppg_name (i := 12) nd rfl (by first | exact Or.inl rfl | exact Or.inr rfl))) (fun _ _ _ _ _ => ppts_nil) (fun _ _ _ _ _ => (pp_if (ppt_cmp (op_eqD hr.units) a_eq (pb (pp_var 12)) (pb (pp_var 6)) (nomark _)) (pp_call (k_l_add.df hr (by decide)) (by rfl) (ppa_cons (pp_ix ix_seq a_ix (pb (pp_var 10)) (pb (pp_var 12))) (ppa_cons (pp_var 7) ppa_nil))) (pp_ix ix_seq a_ix (pb (pp_var 10)) (pb (pp_var 12))))))))
    (pps_one (pp_mut (i := 9) PySem.F.slot_list_append PySem.F.type_list_append mt_append m_append rfl (Or.inl rfl) (ppa_cons (pf (pf_lc (own := [("k", 12)]) (t := (.name 12)) rfl nd (by decide) (ppi_items (pp_var 4)) (blkOk_by (by kernel_rfl)) (fun _ _ _ _ _ => (ppg_name (i := 12) nd rfl (by first | exact Or.inl rfl | exact Or.inr rfl))) (fun _ _ _ _ _ => ppts_nil) (fun _ _ _ _ _ => (pp_call (k_l_mul.df hr (by decide)) (by rfl) (ppa_cons (pp_ix ix_seq a_ix (pb (pp_var 11)) (pb (pp_var 12))) (ppa_cons (pp_var 8) ppa_nil)))))) ppa_nil)))))
    (pps_frz 9 (pps_cons (pp_ifS (ppt_cmp (op_neD hr.units) a_ne (pb (pp_call (k_l_reliable.df hr (by decide)) (by rfl) (ppa_cons (pp_var 9) ppa_nil))) (pb (pp_call (k_l_reliable.df hr (by decide)) (by rfl) (ppa_cons (pp_var 3) ppa_nil))) (nomark _))
      (pps_one (pp_ret pp_bl))
      pps_nil)
    (pps_cons (pp_for PassesOwn.never rfl (ppi_range1 (by rfl) T.n_range (ppa_cons (pp_var 2) ppa_nil)) (ppg_name (i := 12) nd rfl (Or.inl rfl))
      (pps_one (pp_ifS (PW.pt (ppw_or (ppt_cmp (op_neD hr.units) a_ne (pb (pp_call (k_l_without.df hr (by decide)) (by rfl) (ppa_cons (pp_var 9) (ppa_cons (pp_lm PySem.F.slot_list_index PySem.F.type_list_index mt_index lm_index (pb (pp_var 4)) (ppa_cons (pp_var 12) ppa_nil)) ppa_nil)))) (pb (pp_call (k_l_without.df hr (by decide)) (by rfl) (ppa_cons (pp_var 3) (ppa_cons (pp_var 12) ppa_nil)))) (nomark _)) (ppw_or1 (ppt_cmp (op_neD hr.units) a_ne (pb (pp_call (k_l_sharp.df hr (by decide)) (by rfl) (ppa_cons (pp_var 9) (ppa_cons (pp_lm PySem.F.slot_list_index PySem.F.type_list_index mt_index lm_index (pb (pp_var 4)) (ppa_cons (pp_var 12) ppa_nil)) ppa_nil)))) (pb (pp_call (k_l_sharp.df hr (by decide)) (by rfl) (ppa_cons (pp_var 3) (ppa_cons (pp_var 12) ppa_nil)))) (nomark _)))))
      (pps_one (pp_ret pp_bl))
      pps_nil)))
    (pps_cons (pp_asg (pp_call (k_halves.df hr (by decide)) (by rfl) (ppa_cons (pp_var 3) ppa_nil)) (ppg_tup rfl (ppgs_cons (i := 13) nd rfl (Or.inr rfl) (ppgs_cons (i := 14) nd rfl (Or.inr rfl) ppgs_nil))))
    (pps_cons (pp_ifS (PW.pt (ppw_or (ppt_cmp (op_neD hr.units) a_ne (pb (pf (pf_lc (own := [("n", 18)]) (t := (.name 18)) rfl nd (by decide) (ppi_range1 (by rfl) T.n_range (ppa_cons (pp_callB call_len c_len (by rfl) T.n_len (by decide +kernel) (pba_cons (pb (pp_var 3)) pba_nil)) ppa_nil)) (blkOk_by (by kernel_rfl)) (fun _ _ _ _ _ => (ppg_name (i := 18) nd rfl (by first | exact Or.inl rfl | exact Or.inr rfl))) (fun _ _ _ _ _ => ppts_nil) (fun _ _ _ _ _ => (pp_call (k_l_add.df hr (by decide)) (by rfl) (ppa_cons (pp_ix ix_seq a_ix (pb (pp_var 13)) (pb (pp_var 18))) (ppa_cons (pp_ix ix_seq a_ix (pb (pp_var 14)) (pb (pp_var 18))) ppa_nil))))))) (pb (pp_call (k_totals.df hr (by decide)) (by rfl) (ppa_cons (pp_var 3) ppa_nil))) (nomark _)) (ppw_or1 (ppt_cmp (op_neD hr.units) a_ne (pb (pp_call (k_column.df hr (by decide)) (by rfl) (ppa_cons (pp_var 9) (ppa_cons (pp_lm PySem.F.slot_list_index PySem.F.type_list_index mt_index lm_index (pb (pp_var 4)) (ppa_cons (pp_var 6) ppa_nil)) ppa_nil)))) (pb (pf (pf_lc (own := [("row", 10)]) (t := (.name 10)) rfl nd (by decide) (ppi_items (pp_var 5)) (blkOk_by (by kernel_rfl)) (fun _ _ _ _ _ => (ppg_name (i := 10) nd rfl (by first | exact Or.inl rfl | exact Or.inr rfl))) (fun _ _ _ _ _ => ppts_nil) (fun _ _ _ _ _ => (pp_call (k_l_mul.df hr (by decide)) (by rfl) (ppa_cons (pp_call (k_l_add.df hr (by decide)) (by rfl) (ppa_cons (pp_ix ix_seq a_ix (pb (pp_var 10)) (pb (pp_var 6))) (ppa_cons (pp_var 7) ppa_nil))) (ppa_cons (pp_var 8) ppa_nil))))))) (nomark _)))))
      (pps_one (pp_ret pp_bl))
      pps_nil)
    (pps_cons (pp_set (i := 15) nd rfl (Or.inl rfl) (pp_call (k_l_reliable.df hr (by decide)) (by rfl) (ppa_cons (pp_var 3) ppa_nil)))
    (pps_cons (pp_ifS (PW.pt (ppw_or (ppt_cmp op_isN a_isN (pb (pp_var 15)) (pb pp_non) (nomark _)) (ppw_or1 (ppt_truth (pp_call (k_l_lt.df hr (by decide)) (by rfl) (ppa_cons (pp_var 15) (ppa_cons (pp_tup (ppa_cons pp_int (ppa_cons pp_int ppa_nil))) ppa_nil)))))))
      (pps_one (pp_ret pp_bl))
      pps_nil)
    (pps_cons (pp_par2 (i0 := 16) (i1 := 17) rfl nd rfl rfl (by decide) rfl rfl (ppa_cons (pp_tup (ppa_cons (pp_op op_addA a_add (pb pp_int) (pb (pp_call (k_l_draw.df hr (by decide)) (by rfl) (ppa_cons (pp_var 1) (ppa_cons pp_int ppa_nil))))) (ppa_cons pp_int ppa_nil))) (ppa_cons (pp_call (k_l_frac.df hr (by decide)) (by rfl) (ppa_cons (pp_op op_addA a_add (pb pp_int) (pb (pp_call (k_l_draw.df hr (by decide)) (by rfl) (ppa_cons (pp_var 1) (ppa_cons pp_int ppa_nil))))) (ppa_cons pp_int ppa_nil))) ppa_nil)) (by rfl))
    (pps_one (pp_ret (pp_cmp (op_eqD hr.units) a_eq (pb (pp_call (k_lengthened.df hr (by decide)) (by rfl) (ppa_cons (pp_call (k_lengthened.df hr (by decide)) (by rfl) (ppa_cons (pp_var 15) (ppa_cons (pp_var 16) ppa_nil))) (ppa_cons (pp_var 17) ppa_nil)))) (pb (pp_call (k_lengthened.df hr (by decide)) (by rfl) (ppa_cons (pp_var 15) (ppa_cons (pp_call (k_l_mul.df hr (by decide)) (by rfl) (ppa_cons (pp_var 16) (ppa_cons (pp_var 17) ppa_nil))) ppa_nil)))) (nomark _))))))))))))))))))
end
set_option maxHeartbeats 0
def loose : List Str := (["MarkError", "BadNumber", "ZERO", "ONE", "fraction", "whole", "add", "minus", "times", "over", "total_of", "need_some", "mean", "products", "variance", "correlation", "check_table", "column", "totals", "rest", "discrimination", "reliability", "reliability_without", "halves", "lengthened", "_law_draw", "_law_tape", "_law_mod", "_law_gcd", "_law_frac"] : List Str) ++ (["_law_add", "_law_mul", "_law_lt", "_law_fraction", "_law_stirred", "_law_reliable", "_law_without", "_law_sharp"] : List Str)
def fnL : List He.DefD := ([dOf "_law_draw" s_l_draw, dOf "_law_tape" s_l_tape, dOf "fraction" s_fraction, dOf "whole" s_whole, dOf "add" s_add, dOf "minus" s_minus, dOf "times" s_times, dOf "over" s_over, dOf "total_of" s_total_of, dOf "need_some" s_need_some, dOf "mean" s_mean, dOf "products" s_products, dOf "variance" s_variance, dOf "correlation" s_correlation, dOf "check_table" s_check_table, dOf "column" s_column, dOf "totals" s_totals, dOf "rest" s_rest, dOf "discrimination" s_discrimination, dOf "reliability" s_reliability, dOf "reliability_without" s_reliability_without, dOf "halves" s_halves, dOf "lengthened" s_lengthened, dOf "_law_mod" s_l_mod, dOf "_law_gcd" s_l_gcd, dOf "_law_frac" s_l_frac, dOf "_law_add" s_l_add, dOf "_law_mul" s_l_mul, dOf "_law_lt" s_l_lt, dOf "_law_fraction" s_l_fraction] : List He.DefD) ++ ([dOf "_law_stirred" s_l_stirred, dOf "_law_reliable" s_l_reliable, dOf "_law_without" s_l_without, dOf "_law_sharp" s_l_sharp, dOf "law" s_law] : List He.DefD)
def bsL : List KB := ([kGlo "_law_draw", kGlo "_law_tape", kGlo "fraction", kGlo "whole", kGlo "add", kGlo "minus", kGlo "times", kGlo "over", kGlo "total_of", kGlo "need_some", kGlo "mean", kGlo "products", kGlo "variance", kGlo "correlation", kGlo "check_table", kGlo "column", kGlo "totals", kGlo "rest", kGlo "discrimination", kGlo "reliability", kGlo "reliability_without", kGlo "halves", kGlo "lengthened", kGlo "_law_mod", kGlo "_law_gcd", kGlo "_law_frac", kGlo "_law_add", kGlo "_law_mul", kGlo "_law_lt", kGlo "_law_fraction"] : List KB) ++ ([kGlo "_law_stirred", kGlo "_law_reliable", kGlo "_law_without", kGlo "_law_sharp", kGlo "law", kBlt "gcd" "math.gcd", kTup "ONE" [.int 1, .int 1], kTup "ZERO" [.int 0, .int 1], kFree "abs", kFree "all", kFree "int", kFree "len", kFree "list", kFree "range", kFree "zip", kExc "BadNumber"] : List KB)
abbrev RwL : PySem.W.OpenRow := PySem.W.OpenLaw.row PySem.Challenge.rw_fairmarks_k33_tables_turned_about
abbrev hkL : PySem.W.Hook := hookB 5 bsL fnL
def obL (s : PySem.W.SharedT) : He.AlD := obsBG 5 bsL fnL (HandSHeadRun.getT s)
theorem obL_eq (s : PySem.W.SharedT) : obL s = hkL.obs s.abs := obsBG_eq (HandSHeadRun.getT_eq s)
theorem runL (w : World) : HandSHeadRun.RunEqI RwL (PySem.W.view RwL.prog [0, 44]) hkL obL 20000 loose w := by
  unfold HandSHeadRun.RunEqI
  kernel_rfl
theorem txtL {K : PySem.W.Frag} {h : Heap} {mg : Str → Option Value} (X : K.In h) (G : h.Ns mainGlobals mg) (c : SaysB bsL fnL K) : Txt K mg where
  f_l_draw := fnx_of X G c 0 0
  f_l_tape := fnx_of X G c 1 1
  f_fraction := fnx_of X G c 2 2
  f_whole := fnx_of X G c 3 3
  f_add := fnx_of X G c 4 4
  f_minus := fnx_of X G c 5 5
  f_times := fnx_of X G c 6 6
  f_over := fnx_of X G c 7 7
  f_total_of := fnx_of X G c 8 8
  f_need_some := fnx_of X G c 9 9
  f_mean := fnx_of X G c 10 10
  f_products := fnx_of X G c 11 11
  f_variance := fnx_of X G c 12 12
  f_correlation := fnx_of X G c 13 13
  f_check_table := fnx_of X G c 14 14
  f_column := fnx_of X G c 15 15
  f_totals := fnx_of X G c 16 16
  f_rest := fnx_of X G c 17 17
  f_discrimination := fnx_of X G c 18 18
  f_reliability := fnx_of X G c 19 19
  f_reliability_without := fnx_of X G c 20 20
  f_halves := fnx_of X G c 21 21
  f_lengthened := fnx_of X G c 22 22
  f_l_mod := fnx_of X G c 23 23
  f_l_gcd := fnx_of X G c 24 24
  f_l_frac := fnx_of X G c 25 25
  f_l_add := fnx_of X G c 26 26
  f_l_mul := fnx_of X G c 27 27
  f_l_lt := fnx_of X G c 28 28
  f_l_fraction := fnx_of X G c 29 29
  f_l_stirred := fnx_of X G c 30 30
  f_l_reliable := fnx_of X G c 31 31
  f_l_without := fnx_of X G c 32 32
  f_l_sharp := fnx_of X G c 33 33
  b_gcd := blt_of X G c 35
  c_ONE := cst_of X G c 36
  c_ZERO := cst_of X G c 37
  n_abs := free_of X G c 38
  n_all := free_of X G c 39
  n_int := free_of X G c 40
  n_len := free_of X G c 41
  n_list := free_of X G c 42
  n_range := free_of X G c 43
  n_zip := free_of X G c 44
  e_BadNumber := exf_of X G c 45
theorem factsL {P : Program} {w : World} {K : PySem.W.Frag} {h : Heap} {mg : Str → Option Value} {f : Addr} (X : K.In h) (G : h.Ns mainGlobals mg) (hfa : mg ("law" : Str) = some (.ref f)) (c : SaysB bsL fnL K) :
    ∃ fd : FuncData, (∀ (s : Shared) (v : Value), BindsTo s fd ⟨[v], []⟩ [("script", v)]) ∧ ∀ base : Heap, K.In base → base.Ns mainGlobals mg → FnOk P w K mg base CX0 10 f fd ["script"] (spLaw K) := by
  have T := txtL X G c
  obtain ⟨fd, F⟩ := c.def_ 34 (d := dOf "law" s_law) rfl
  have e := hfa.symm.trans (He.glo_ok X G (c.fact 34 (f := kGlo "law") rfl))
  cases e
  have b := FunD.bindsA (ps := ["script"]) F fun _ _ _ _ _ _ us hl => match us, hl with | [_], _ => rfl
  refine ⟨fd, fun s v => b s [v] rfl, fun base _ _ => ?_⟩
  have k_tape : Kn P w K mg base 1 "_law_tape" (spTape K) := kn_tape T.f_l_tape T.n_len T.n_int T.n_list
  have k_l_draw : Kn P w K mg base 1 "_law_draw" (spP K φ_l_draw) := kn_draw T.f_l_draw T.n_len T.n_int
  have k_fraction : Kn P w K mg base 1 "fraction" (spP K φ_fraction) := kn_fraction T 
  have k_whole : Kn P w K mg base 1 "whole" (spP K φ_whole) := kn_whole T 
  have k_add : Kn P w K mg base 2 "add" (spP K φ_add) := kn_add T k_fraction
  have k_minus : Kn P w K mg base 2 "minus" (spP K φ_minus) := kn_minus T k_fraction
  have k_times : Kn P w K mg base 2 "times" (spP K φ_times) := kn_times T k_fraction
  have k_over : Kn P w K mg base 2 "over" (spP K φ_over) := kn_over T k_fraction
  have k_total_of : Kn P w K mg base 3 "total_of" (spP K φ_total_of) := kn_total_of T k_add
  have k_need_some : Kn P w K mg base 1 "need_some" (spP K φ_need_some) := kn_need_some T 
  have k_mean : Kn P w K mg base 4 "mean" (spP K φ_mean) := kn_mean T k_need_some k_over k_total_of k_whole
  have k_products : Kn P w K mg base 5 "products" (spP K φ_products) := kn_products T k_add k_mean k_minus k_times
  have k_variance : Kn P w K mg base 6 "variance" (spP K φ_variance) := kn_variance T k_over k_products k_whole
  have k_correlation : Kn P w K mg base 6 "correlation" (spP K φ_correlation) := kn_correlation T k_over k_products k_times
  have k_check_table : Kn P w K mg base 1 "check_table" (spP K φ_check_table) := kn_check_table T 
  have k_column : Kn P w K mg base 1 "column" (spP K φ_column) := kn_column T 
  have k_totals : Kn P w K mg base 4 "totals" (spP K φ_totals) := kn_totals T k_total_of
  have k_rest : Kn P w K mg base 4 "rest" (spP K φ_rest) := kn_rest T k_minus k_total_of
  have k_discrimination : Kn P w K mg base 7 "discrimination" (spP K φ_discrimination) := kn_discrimination T k_check_table k_column k_correlation k_rest
  have k_reliability : Kn P w K mg base 7 "reliability" (spP K φ_reliability) := kn_reliability T k_check_table k_column k_minus k_over k_times k_total_of k_totals k_variance k_whole
  have k_reliability_without : Kn P w K mg base 8 "reliability_without" (spP K φ_reliability_without) := kn_reliability_without T k_check_table k_reliability
  have k_halves : Kn P w K mg base 4 "halves" (spP K φ_halves) := kn_halves T k_check_table k_total_of
  have k_lengthened : Kn P w K mg base 3 "lengthened" (spP K φ_lengthened) := kn_lengthened T k_add k_minus k_over k_times
  have k_l_mod : Kn P w K mg base 1 "_law_mod" (spP K φ_l_mod) := kn_l_mod T 
  have k_l_gcd : Kn P w K mg base 2 "_law_gcd" (spP K φ_l_gcd) := kn_l_gcd T k_l_mod
  have k_l_frac : Kn P w K mg base 3 "_law_frac" (spP K φ_l_frac) := kn_l_frac T k_l_gcd
  have k_l_add : Kn P w K mg base 4 "_law_add" (spP K φ_l_add) := kn_l_add T k_l_frac
  have k_l_mul : Kn P w K mg base 4 "_law_mul" (spP K φ_l_mul) := kn_l_mul T k_l_frac
  have k_l_lt : Kn P w K mg base 1 "_law_lt" (spP K φ_l_lt) := kn_l_lt T 
  have k_l_fraction : Kn P w K mg base 4 "_law_fraction" (spP K φ_l_fraction) := kn_l_fraction T k_l_draw k_l_frac
  have k_l_stirred : Kn P w K mg base 2 "_law_stirred" (spP K φ_l_stirred) := kn_l_stirred T k_l_draw
  have kx_fraction : KnX P w K mg base 1 "fraction" "BadNumber" ψ_fraction := knx_fraction T 
  have kx_over : KnX P w K mg base 2 "over" "BadNumber" ψ_over := knx_over T kx_fraction
  have kx_reliability : KnX P w K mg base 7 "reliability" "BadNumber" ψ_reliability := knx_reliability T k_check_table k_column k_minus k_over k_times k_total_of k_totals k_variance k_whole kx_over
  have kx_reliability_without : KnX P w K mg base 8 "reliability_without" "BadNumber" ψ_reliability_without := knx_reliability_without T k_check_table kx_reliability
  have kx_correlation : KnX P w K mg base 6 "correlation" "BadNumber" ψ_correlation := knx_correlation T k_products k_times kx_over
  have kx_discrimination : KnX P w K mg base 7 "discrimination" "BadNumber" ψ_discrimination := knx_discrimination T k_check_table k_column k_rest kx_correlation
  have k_l_reliable : Kn P w K mg base 8 "_law_reliable" (spP K φ_l_reliable) := kn_l_reliable T k_reliability kx_reliability
  have k_l_without : Kn P w K mg base 9 "_law_without" (spP K φ_l_without) := kn_l_without T k_reliability_without kx_reliability_without
  have k_l_sharp : Kn P w K mg base 8 "_law_sharp" (spP K φ_l_sharp) := kn_l_sharp T k_discrimination kx_discrimination
  exact ok_law F T k_tape k_l_add k_l_draw k_l_frac k_l_fraction k_l_lt k_l_mul k_l_reliable k_l_sharp k_l_stirred k_l_without k_column k_halves k_lengthened k_totals
end Pl
open PySem PySem.W PySem.Calls PyProof.Rows
theorem PySem.Challenge.cw_fairmarks_k33_tables_turned_about_holds : PySem.Challenge.rw_fairmarks_k33_tables_turned_about.Holds := by
  w_on; o_law
  refine HandSHeadRun.head_imp (r := OpenLaw.row PySem.Challenge.rw_fairmarks_k33_tables_turned_about) (q := view (OpenLaw.row PySem.Challenge.rw_fairmarks_k33_tables_turned_about).prog [0, 44]) (H := Pl.hkL) (ob := Pl.obL) (M := 20000) (loose := Pl.loose) (d := HandSHeadRun.topDef (OpenLaw.row PySem.Challenge.rw_fairmarks_k33_tables_turned_about).prog 44) (kwd := []) Pl.obL_eq
    Pl.runL (by kernel_rfl) (by kernel_rfl) (by kernel_rfl) (by rfl) (by first | assumption | decide +kernel) (by decide +kernel) ⟨rfl, rfl, rfl, rfl, rfl, by decide +kernel⟩ ?hw ?hc
  case hw => w_witness2
  case hc =>
    refine L2.walk_ofE (l := PySem.Challenge.rw_fairmarks_k33_tables_turned_about) (n := 63) (k := 10) (x := "script") (CX := L2.CX0) rfl (by decide) (by kernel_rfl) ⟨rfl, by decide, by decide⟩ ?F (fun _ _ _ _ z => z)
    intro w mg fa h Y G hmg0
    obtain ⟨K, KX, c⟩ := Y
    have hmg : mg ("law" : PySem.Str) = some (.ref fa) := by
      have e : (HandSHeadRun.topDef (OpenLaw.row PySem.Challenge.rw_fairmarks_k33_tables_turned_about).prog 44).name = ("law" : PySem.Str) := by kernel_rfl
      rw [← e]
      exact hmg0
    obtain ⟨fd, hb, hF⟩ := Pl.factsL (P := (PySem.Challenge.rw_fairmarks_k33_tables_turned_about).prog) (w := w) KX G hmg c
    exact ⟨K, fd, Pl.spLaw K, KX, hb, fun H a ns hl _ hS => ⟨a, ns, rfl, hS, fun _ => rfl⟩, hF⟩
end
