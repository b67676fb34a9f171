import PyProof.Rows.All
import Wide.All
import OpenK.AllK
import Wide.FinOn
import HandS.ForMost
import HandS.Wide
import HandS.Gcd
import HandS.HeadHook1
import HandS.Zip
import HandS.Defaults
import HandS.IsInst
import KE.KStateDown
import HandS.Head0
import HandS.Head1
import HandS.Head2
import HandS.HeadEnd
import HandS.HeadHook2
import HandS.Iter
import HandS.Dict
import HandS.TupAny
import KE.KDictZip
import HandS.GenList
import HandS.Deep
import HandS.SetFor
import HandS.More
import HandS.Head3
import PySem.Challenge.RW_fairmarks_k41_grades_cut_finer
section
set_option linter.all false
set_option maxRecDepth 100000
set_option autoImplicit false
/-! the plain layer: data, slots, what each construct makes of them (no program, no heap) -/
namespace Pl
open PySem

/-- data -/
inductive D where
  | non | bl (b : Bool) | int (i : Int) | str (s : Str)
  | tup (xs : List D) | lst (xs : List D)
  | dk (ks : List (Sum Int Str)) (ds : List D)
  | dt (ks : List (List (Sum Int Str))) (ds : List D)
  | obj (c : Str) (ns : List Str) (ds : List D)
  | tape

inductive Slot where
  | non | val (d : D) | own (d : D)
abbrev AEnv := List Slot
abbrev FE := AEnv → (D → Prop) → Prop
abbrev FEs := AEnv → (List D → Prop) → Prop
abbrev FT := AEnv → (Bool → Prop) → Prop
structure AEnds where
  nx : AEnv → Prop
  rt : D → Prop
  bk : AEnv → Prop := fun _ => False
  ct : AEnv → Prop := fun _ => False
abbrev FS := AEnds → AEnv → Prop
/-- an operator on data -/
abbrev Op2 := D → D → (D → Prop) → Prop
/-- a function on data -/
abbrev Fn := List D → (D → Prop) → Prop

/-! ### expressions -/
def wVar (i : Nat) : FE := fun env Q => ∃ d, env[i]? = some (.val d) ∧ Q d
def wOwn (i : Nat) : FE := fun env Q => ∃ d, env[i]? = some (.own d) ∧ Q d
def wC (d : D) : FE := fun _ Q => Q d
def wBin (φ : Op2) (fa fb : FE) : FE := fun env Q => fa env fun x => fb env fun y => φ x y Q
def wUn (φ : D → (D → Prop) → Prop) (fa : FE) : FE := fun env Q => fa env fun x => φ x Q
def wNil : FEs := fun _ Q => Q []
def wCons (f : FE) (fs : FEs) : FEs := fun env Q => f env fun x => fs env fun xs => Q (x :: xs)
def wTup (fs : FEs) : FE := fun env Q => fs env fun xs => xs.length ≤ 16777216 ∧ Q (.tup xs)
def wLst (fs : FEs) : FE := fun env Q => fs env fun xs => xs.length ≤ 16777216 ∧ Q (.lst xs)
def wCall (φ : Fn) (fs : FEs) : FE := fun env Q => fs env fun xs => φ xs Q
def dBool (d : D) (Q : Bool → Prop) : Prop := match d with
  | .bl b => Q b
  | _ => False
def wAndV (fa fb : FE) : FE := fun env Q => fa env fun x => dBool x fun c => if c = true then fb env Q else Q (.bl false)
def wOrV (fa fb : FE) : FE := fun env Q => fa env fun x => dBool x fun c => if c = true then Q (.bl true) else fb env Q
def wNotV (fa : FE) : FE := fun env Q => fa env fun x => dBool x fun c => Q (.bl !c)
def wIf (t : FT) (fa fb : FE) : FE := fun env Q => t env fun b => if b = true then fa env Q else fb env Q
/-- a chain a < b < c -/
def wChain (φ ψ : Op2) (fa fb fc : FE) : FE := fun env Q => fa env fun x => fb env fun y => φ x y fun z => dBool z fun k => if k = true then fc env fun w => ψ y w Q else Q (.bl false)
/-! ### tests -/
def wTest (f : FE) : FT := fun env Q => f env fun x => dBool x Q
def wAnd (t u : FT) : FT := fun env Q => t env fun c => if c = true then u env Q else Q false
def wOr (t u : FT) : FT := fun env Q => t env fun c => if c = true then Q true else u env Q
def wNot (t : FT) : FT := fun env Q => t env fun c => Q (!c)
/-! ### targets -/
inductive Tgt where
  | name (i : Nat)
  | tup (is : List Nat)
def setAll : List Nat → List D → AEnv → Option AEnv
  | [], [], env => some env
  | i :: is, d :: ds, env => setAll is ds (env.set i (.val d))
  | _, _, _ => none
def bindT (t : Tgt) (d : D) (env : AEnv) : Option AEnv := match t, d with
  | .name i, d => some (env.set i (.val d))
  | .tup is, .tup ds => setAll is ds env
  | _, _ => none
def Tgt.slots : Tgt → List Nat
  | .name i => [i]
  | .tup is => is
def wBind (t : Tgt) (d : D) (env : AEnv) (Q : AEnv → Prop) : Prop := ∃ e, bindT t d env = some e ∧ Q e
/-! ### comprehensions -/
def wipeE (env : AEnv) : List Nat → AEnv
  | [] => env
  | v :: vs => (wipeE env vs).set v .non
def wYes : FT := fun _ Q => Q true
def wComp (t : Tgt) (c : FT) (f : FE) (env : AEnv) : List D → List D → (D → Prop) → Prop
  | [], acc, Q => Q (.lst acc)
  | d :: ds, acc, Q => wBind t d env fun e => c e fun b => if b = true then f e fun y => acc.length < 16777216 ∧ wComp t c f env ds (acc ++ [y]) Q else wComp t c f env ds acc Q
/-- vs: the comprehension's own places -/
def wLc (fi : FEs) (t : Tgt) (c : FT) (f : FE) (vs : List Nat) : FE := fun env Q => fi env fun ds => wComp t c f (wipeE env vs) ds [] Q
/-- the place of an index, of any sign -/
def ixD (n : Nat) (i : Int) : Option Nat := if 0 ≤ i then (if i < n then some i.toNat else none) else if -(n : Int) ≤ i then some (i + n).toNat else none
/-! ### statements -/
def wSeq (F G : FS) : FS := fun A env => F { A with nx := G A } env
def wNext : FS := fun A env => A.nx env
def wSet (i : Nat) (f : FE) : FS := fun A env => f env fun d => A.nx (env.set i (.val d))
def wSetO (i : Nat) (f : FE) : FS := fun A env => f env fun d => A.nx (env.set i (.own d))
def wAsg (t : Tgt) (f : FE) : FS := fun A env => f env fun d => wBind t d env A.nx
def wFrz (i : Nat) : FS := fun A env => ∃ d, env[i]? = some (.own d) ∧ A.nx (env.set i (.val d))
def wRet (f : FE) : FS := fun A env => f env A.rt
def wRetN : FS := fun A _ => A.rt .non
def wDrop (f : FE) : FS := fun A env => f env fun _ => A.nx env
def wIfS (t : FT) (F G : FS) : FS := fun A env => t env fun b => if b = true then F A env else G A env
def wNever : FS := fun _ _ => False
def wBreak : FS := fun A env => A.bk env
def wCont : FS := fun A env => A.ct env
def wForL (t : Tgt) (F : FS) : List D → FS
  | [], A, env => A.nx env
  | d :: ds, A, env => wBind t d env fun e => F { A with nx := wForL t F ds A, ct := wForL t F ds A, bk := A.nx } e
def wFor (t : Tgt) (fi : FEs) (F : FS) : FS := fun A env => fi env fun ds => wForL t F ds A env
def wWhileN (c : FT) (F : FS) : Nat → FS
  | 0, _, _ => False
  | n + 1, A, env => c env fun b => if b = true then F { A with nx := wWhileN c F n A, ct := wWhileN c F n A, bk := A.nx } env else A.nx env
def wWhile (c : FT) (F : FS) : FS := fun A env => ∃ n, wWhileN c F n A env
/-- name op= e -/
def wAug (i : Nat) (φ : Op2) (f : FE) : FS := fun A env => ∃ d, env[i]? = some (.val d) ∧ f env fun x => φ d x fun z => A.nx (env.set i (.val z))
/-- a method that changes an own list: what it holds, the arguments, the wish of its answer and of what it holds then -/
abbrev MutL := List D → List D → (D → List D → Prop) → Prop
def wMut (i : Nat) (φ : MutL) (fs : FEs) : FS := fun A env => ∃ ds, env[i]? = some (.own (.lst ds)) ∧ fs env fun xs => φ ds xs fun _ ds' => A.nx (env.set i (.own (.lst ds')))
/-- x = own.m(..) -/
def wMutSet (j i : Nat) (φ : MutL) (fs : FEs) : FS := fun A env => ∃ ds, env[i]? = some (.own (.lst ds)) ∧ fs env fun xs => φ ds xs fun r ds' => A.nx ((env.set i (.own (.lst ds'))).set j (.val r))
/-- own[k] = e: the value first -/
def wPut (i : Nat) (fk fe : FE) : FS := fun A env => ∃ ds, env[i]? = some (.own (.lst ds)) ∧ fe env fun x => fk env fun k => match k with
  | .int n => ∃ j, ixD ds.length n = some j ∧ A.nx (env.set i (.own (.lst (ds.set j x))))
  | _ => False

/-! ### operators on data -/
def dInt2 (C : Int → Int → Prop) (g : Int → Int → D) : Op2 := fun x y Q => match x, y with
  | .int i, .int j => C i j ∧ Q (g i j)
  | _, _ => False
def dSub : Op2 := dInt2 (fun _ _ => True) fun i j => .int (i - j)
/-- together below a million bits -/
def CM (i j : Int) : Prop := (-(2 ^ 64) < i ∧ i < 2 ^ 64) ∨ (-(2 ^ 64) < j ∧ j < 2 ^ 64) ∨ i.natAbs.log2 + j.natAbs.log2 < 1000000
/-- a divisor above 0, below 9000 bits -/
def CD (_ j : Int) : Prop := 0 < j ∧ j.natAbs.log2 < 9000
def dFdiv : Op2 := dInt2 CD fun i j => .int (i / j)
def dMod : Op2 := dInt2 (fun _ j => 0 < j) fun i j => .int (i % j)
def dLt : Op2 := dInt2 (fun _ _ => True) fun i j => .bl (decide (i < j))
def dLe : Op2 := dInt2 (fun _ _ => True) fun i j => .bl (decide (i ≤ j))
def dGt : Op2 := dInt2 (fun _ _ => True) fun i j => .bl (decide (j < i))
def dGe : Op2 := dInt2 (fun _ _ => True) fun i j => .bl (decide (j ≤ i))
def dPow : Op2 := dInt2 (fun i j => 0 ≤ j ∧ j ≤ 1000000 ∧ i.natAbs < 2 ^ 64) fun i j => .int (i ^ j.toNat)
def dXor : Op2 := fun x y Q => match x, y with
  | .int i, .int 1 => 0 ≤ i ∧ Q (.int (if i % 2 = 0 then i + 1 else i - 1))
  | _, _ => False
def dNeg : D → (D → Prop) → Prop := fun x Q => match x with
  | .int i => Q (.int (-i))
  | _ => False
def b2i (b : Bool) : Int := if b then 1 else 0
/-- + -/
def dAdd : Op2 := fun x y Q => match x, y with
  | .int i, .int j => Q (.int (i + j))
  | .str s, .str t => s.length + t.length ≤ 16777216 ∧ Q (.str (s ++ t))
  | .lst a, .lst b => a.length + b.length ≤ 16777216 ∧ Q (.lst (a ++ b))
  | .tup a, .tup b => a ≠ [] ∧ a.length + b.length ≤ 16777216 ∧ Q (.tup (a ++ b))
  | _, _ => False
/-- * -/
def dMul : Op2 := fun x y Q => match x, y with
  | .int i, .int j => CM i j ∧ Q (.int (i * j))
  | .lst a, .int k => (-(2 ^ 63) ≤ k ∧ k < 2 ^ 63 ∧ a.length * k.toNat ≤ 16777216) ∧ Q (.lst (List.replicate k.toNat a).flatten)
  | _, _ => False
mutual
def deq : D → D → Bool
  | .non, .non => true
  | .bl a, .bl b => a == b
  | .bl a, .int j => (if a then 1 else 0) == j
  | .int i, .bl b => i == (if b then 1 else 0)
  | .int i, .int j => i == j
  | .str x, .str y => x == y
  | .lst xs, .lst ys => deqs xs ys
  | .tup xs, .tup ys => deqs xs ys
  | _, _ => false
def deqs : List D → List D → Bool
  | [], [] => true
  | x :: xs, y :: ys => deq x y && deqs xs ys
  | _, _ => false
end
def okStr (s : Str) : Bool := s.cps.all (· < 0x110000)
mutual
/-- flat data, tuples and lists of such, no deeper than n -/
def plain : Nat → D → Bool
  | _, .non => true
  | _, .bl _ => true
  | _, .int _ => true
  | _, .str s => okStr s
  | n + 1, .lst xs => plains n xs
  | n + 1, .tup xs => plains n xs
  | _, _ => false
def plains : Nat → List D → Bool
  | _, [] => true
  | n, x :: xs => plain n x && plains n xs
end
def dEq : Op2 := fun x y Q => plain 20 x = true ∧ plain 20 y = true ∧ Q (.bl (deq x y))
def dNe : Op2 := fun x y Q => plain 20 x = true ∧ plain 20 y = true ∧ Q (.bl !(deq x y))
def isNon : D → Bool
  | .non => true
  | _ => false
def dIsN : Op2 := fun x y Q => match y with
  | .non => Q (.bl (isNon x))
  | _ => False
def dNotN : Op2 := fun x y Q => match y with
  | .non => Q (.bl !(isNon x))
  | _ => False
def dIx : Op2 := fun x y Q => match x, y with
  | .lst xs, .int i => ∃ d, ((ixD xs.length i).bind fun j => xs[j]?) = some d ∧ Q d
  | .tup xs, .int i => ∃ d, ((ixD xs.length i).bind fun j => xs[j]?) = some d ∧ Q d
  | _, _ => False
def flatD : D → Bool
  | .non => true
  | .bl _ => true
  | .int _ => true
  | .str _ => true
  | _ => false
def dIn : Op2 := fun x y Q => match y with
  | .lst ys => flatD x = true ∧ ys.all flatD = true ∧ Q (.bl (ys.any fun y => deq y x))
  | .tup ys => flatD x = true ∧ ys.all flatD = true ∧ Q (.bl (ys.any fun y => deq y x))
  | _ => False
def dNotIn : Op2 := fun x y Q => match y with
  | .lst ys => flatD x = true ∧ ys.all flatD = true ∧ Q (.bl !(ys.any fun y => deq y x))
  | .tup ys => flatD x = true ∧ ys.all flatD = true ∧ Q (.bl !(ys.any fun y => deq y x))
  | _ => False
/-! ### built-ins on data -/
def bLen : Fn := fun xs Q => match xs with
  | [.lst a] => Q (.int a.length)
  | [.tup a] => Q (.int a.length)
  | [.str s] => s.length ≤ 16777216 ∧ Q (.int s.length)
  | _ => False
def bAbs : Fn := fun xs Q => match xs with
  | [.int i] => Q (.int i.natAbs)
  | _ => False
def bMax2 : Fn := fun xs Q => match xs with
  | [.int i, .int j] => Q (.int (max i j))
  | _ => False
def bMin2 : Fn := fun xs Q => match xs with
  | [.int i, .int j] => Q (.int (min i j))
  | _ => False
def bInt : Fn := fun xs Q => match xs with
  | [.int i] => Q (.int i)
  | [.bl b] => Q (.int (b2i b))
  | _ => False
def bGcd : Fn := fun xs Q => match xs with
  | [.int i, .int j] => Q (.int (Nat.gcd i.natAbs j.natAbs))
  | _ => False
def bList : Fn := fun xs Q => match xs with
  | [.lst a] => Q (.lst a)
  | [.tup a] => Q (.lst a)
  | _ => False
def bTuple : Fn := fun xs Q => match xs with
  | [.lst a] => Q (.tup a)
  | [.tup a] => Q (.tup a)
  | _ => False
def intsD : List D → Option (List Int)
  | [] => some []
  | .int i :: xs => (intsD xs).map (i :: ·)
  | _ => none
def boolsD : List D → Option (List Bool)
  | [] => some []
  | .bl b :: xs => (boolsD xs).map (b :: ·)
  | _ => none
def bSum : Fn := fun xs Q => match xs with
  | [.lst a] => ∃ ns, intsD a = some ns ∧ Q (.int ns.sum)
  | _ => False
def bAll : Fn := fun xs Q => match xs with
  | [.lst a] => ∃ bs, boolsD a = some bs ∧ Q (.bl (bs.all id))
  | _ => False
def bAny : Fn := fun xs Q => match xs with
  | [.lst a] => ∃ bs, boolsD a = some bs ∧ Q (.bl (bs.any id))
  | _ => False
/-! ### sets made from lists, places, counts -/
def addK {α : Type} [DecidableEq α] (σ : List α) (k : α) : List α := if k ∈ σ then σ else σ ++ [k]
/-- each once, as met first -/
def setK {α : Type} [DecidableEq α] (ks : List α) : List α := ks.foldl addK []
def strsD : List D → Option (List Str)
  | [] => some []
  | .str i :: xs => (strsD xs).map (i :: ·)
  | _ => none
def dedLen (a : List D) : Option Nat := match intsD a with
  | some ns => some (setK ns).length
  | none => (strsD a).map fun ns => (setK ns).length
/-- len(set(xs)), ints or texts -/
def wLenSet (f : FE) : FE := fun env Q => f env fun x => match x with
  | .lst a => a.length ≤ 1000 ∧ ∃ n : Nat, dedLen a = some n ∧ Q (.int n)
  | _ => False
/-- a method of a list that changes nothing -/
def wLm (φ : Fn) (f : FE) (fs : FEs) : FE := fun env Q => f env fun x => match x with
  | .lst a => fs env fun xs => φ (.lst a :: xs) Q
  | _ => False
def bIndex : Fn := fun xs Q => match xs with
  | [.lst a, y] => flatD y = true ∧ a.all flatD = true ∧ ∃ j : Nat, a.findIdx? (fun z => deq z y) = some j ∧ Q (.int j)
  | _ => False
def bCount : Fn := fun xs Q => match xs with
  | [.lst a, y] => flatD y = true ∧ a.all flatD = true ∧ Q (.int (a.countP fun z => deq z y : Nat))
  | _ => False
/-! ### slices -/
def sIxD (n d : Nat) : Option Int → Nat
  | none => d
  | some i => if i < 0 then (i + n).toNat else min i.toNat n
def cutD (xs : List D) (lo hi : Option Int) : List D := (xs.drop (sIxD xs.length 0 lo)).take (sIxD xs.length xs.length hi - sIxD xs.length 0 lo)
abbrev FO := AEnv → (Option Int → Prop) → Prop
def wNoP : FO := fun _ Q => Q none
def wP (f : FE) : FO := fun env Q => f env fun x => match x with
  | .int i => Q (some i)
  | _ => False
def wSlice (f : FE) (fl fh : FO) : FE := fun env Q => f env fun x => fl env fun l => fh env fun h => match x with
  | .lst xs => Q (.lst (cutD xs l h))
  | _ => False
/-- a slice of a tuple -/
def wSliceT (f : FE) (fl fh : FO) : FE := fun env Q => f env fun x => fl env fun l => fh env fun h => match x with
  | .lst xs => Q (.lst (cutD xs l h))
  | .tup xs => Q (.tup (cutD xs l h))
  | _ => False
/-! ### what is walked -/
def wItems (f : FE) : FEs := fun env Q => f env fun x => match x with
  | .lst xs => Q xs
  | .tup xs => Q xs
  | _ => False
def rngD (lo : Int) (n : Nat) : List D := (List.range n).map fun (k : Nat) => D.int (lo + (k : Int))
def wRng1 (fs : FEs) : FEs := fun env Q => fs env fun xs => match xs with
  | [.int j] => (-(2 ^ 62) ≤ j ∧ j < 2 ^ 62) ∧ Q (rngD 0 j.toNat)
  | _ => False
def wRng2 (fs : FEs) : FEs := fun env Q => fs env fun xs => match xs with
  | [.int i, .int j] => (-(2 ^ 62) ≤ i ∧ i < 2 ^ 62 ∧ -(2 ^ 62) ≤ j ∧ j < 2 ^ 62) ∧ Q (rngD i (j - i).toNat)
  | _ => False
def rngDn (hi : Int) (n : Nat) : List D := (List.range n).map fun (k : Nat) => D.int (hi - (k : Int))
/-- range(i, j, -1) -/
def wRngDown (fs : FEs) : FEs := fun env Q => fs env fun xs => match xs with
  | [.int i, .int j, .int (-1)] => (-(2 ^ 62) ≤ i ∧ i < 2 ^ 62 ∧ -(2 ^ 62) ≤ j ∧ j < 2 ^ 62) ∧ Q (rngDn i (i - j).toNat)
  | _ => False
def zipD (a b : List D) : List D := a.zipWith (fun x y => .tup [x, y]) b
def wZip (fs : FEs) : FEs := fun env Q => fs env fun xs => match xs with
  | [.lst a, .lst b] => Q (zipD a b)
  | [.tup a, .tup b] => Q (zipD a b)
  | _ => False
/-- list(zip(a, b)) -/
def wListZip (fs : FEs) : FE := fun env Q => fs env fun xs => match xs with
  | [.lst a, .lst b] => Q (.lst (zipD a b))
  | _ => False
def enumD (a : List D) : List D := a.mapIdx fun i x => .tup [.int i, x]
def wEnum (fs : FEs) : FEs := fun env Q => fs env fun xs => match xs with
  | [.lst a] => Q (enumD a)
  | _ => False
def wRev (fs : FEs) : FEs := fun env Q => fs env fun xs => match xs with
  | [.lst a] => Q a.reverse
  | _ => False
/-! ### changes of own lists -/
def mAppend : MutL := fun a xs Q => match xs with
  | [x] => a.length < 16777216 ∧ Q .non (a ++ [x])
  | _ => False
def mInsert : MutL := fun a xs Q => match xs with
  | [.int i, x] => 0 ≤ i ∧ i < 2 ^ 62 ∧ a.length < 16777216 ∧ Q .non (a.take i.toNat ++ [x] ++ a.drop i.toNat)
  | _ => False
def mExtend : MutL := fun a xs Q => match xs with
  | [.lst b] => a.length + b.length ≤ 16777216 ∧ Q .non (a ++ b)
  | _ => False
def mPopAt : MutL := fun a xs Q => match xs with
  | [.int i] => (-(2 ^ 63) ≤ i ∧ i < 2 ^ 63) ∧ ∃ j x, ixD a.length i = some j ∧ a[j]? = some x ∧ Q x (a.eraseIdx j)
  | _ => False
/-! ### isinstance -/
def tyName : D → Option String
  | .non => some "NoneType"
  | .bl _ => some "bool"
  | .int _ => some "int"
  | .str _ => some "str"
  | .tup _ => some "tuple"
  | .lst _ => some "list"
  | .dk _ _ => some "dict"
  | .dt _ _ => some "dict"
  | _ => none
/-- T: one of bool, int, str, tuple, list -/
def wIsi (T : String) (f : FE) : FE := fun env Q => f env fun x => match tyName x with
  | some t => Q (.bl (decide (t = T) || (decide (t = "bool") && decide (T = "int"))))
  | none => False
/-! ### several names at once -/
def wPar (is : List Nat) (fs : FEs) : FS := fun A env => fs env fun ds => ∃ e, setAll is ds env = some e ∧ A.nx e
/-- a, b, c = x, y, a new list -/
def wPar3O (i j l : Nat) (fa fb fc : FE) : FS := fun A env => fa env fun x => fb env fun y => fc env fun z => A.nx (((env.set i (.val x)).set j (.val y)).set l (.own z))
/-! ### objects that don't change -/
def fLook (f : Str) : List Str → List D → Option D
  | n :: ns, d :: ds => if f = n then some d else fLook f ns ds
  | _, _ => none
def dFld (c x : Str) (o : D) (Q : D → Prop) : Prop := match o with
  | .obj c' ns ds => c' = c ∧ ∃ d, fLook x ns ds = some d ∧ Q d
  | _ => False
def wFld (f : FE) (c x : Str) : FE := fun env Q => f env fun o => dFld c x o Q
/-! ### dicts with keys ints and texts -/
def keyD : D → Option (Sum Int Str)
  | .int i => some (.inl i)
  | .str s => some (.inr s)
  | _ => none
def kLook (k : Sum Int Str) : List (Sum Int Str) → List D → Option D
  | n :: ns, d :: ds => if n = k then some d else kLook k ns ds
  | _, _ => none
/-- {k: e, ..}, the keys written -/
def wDict (ks : List (Sum Int Str)) (fs : FEs) : FE := fun env Q => fs env fun xs => Q (.dk ks xs)
/-- d[k] -/
def dGet : Op2 := fun x y Q => match x with
  | .dk ks ds => ∃ k d, keyD y = some k ∧ kLook k ks ds = some d ∧ Q d
  | _ => False
/-- self.f = e in a new object -/
def wSetF (c : Str) (i : Nat) (f : Str) (fe : FE) : FS := fun A env => fe env fun x => ∃ ns ds, env[i]? = some (.own (.obj c ns ds)) ∧ ns.contains f = false ∧ ns.length < 1000 ∧ A.nx (env.set i (.own (.obj c (ns ++ [f]) (ds ++ [x]))))
/-- an object of class c whose fields are not named m -/
def okM (c m : Str) : D → Prop
  | .obj c' ns _ => c' = c ∧ ns.contains m = false
  | _ => False
/-- o.m(..) -/
def wMeth (c m : Str) (φ : Fn) (fo : FE) (fs : FEs) : FE := fun env Q => fo env fun o => okM c m o ∧ fs env fun xs => φ (o :: xs) Q
/-- C(..) -/
def wMake (φ : Fn) (fs : FEs) : FE := wCall φ fs
/-! ### a def's start, a law's end -/
/-- the start of __init__ -/
def startI (n : Nat) (c : Str) (ds : List D) : AEnv := .own (.obj c [] []) :: (ds.map .val ++ List.replicate (n - 1 - ds.length) .non)
/-- what __init__ is to reach: the object as it stands in slot 0 -/
def AEnds.ini (Q : D → Prop) : AEnds := { nx := fun env => ∃ c ns ds, env[0]? = some (.own (.obj c ns ds)) ∧ Q (.obj c ns ds), rt := fun _ => False }
def startE (n : Nat) (ds : List D) : AEnv := ds.map .val ++ List.replicate (n - ds.length) .non
/-- what the law's body is to reach -/
def AEnds.law : AEnds := { nx := fun _ => False, rt := fun d => d = .bl true }
def AEnds.fn (Q : D → Prop) : AEnds := { nx := fun _ => Q .non, rt := Q }
end Pl
end

section
set_option Elab.async false
set_option linter.all false
set_option maxRecDepth 100000
set_option maxHeartbeats 1000000
set_option autoImplicit false
/-! the plain layer: values as data, own lists as slots; by hand over HandS -/
namespace Pl
open PySem PySem.Spec PyProof.Rows L2

/-- a written tuple -/
def WrT (K : PySem.W.Frag) (a : Addr) (xs : List V) : Prop := SqT K (fun _ => none) a xs
theorem WrT.sq {K : PySem.W.Frag} {H : Hp} {a : Addr} {xs : List V} (h : WrT K a xs) : SqT K H a xs := by
  rcases h with (h | ⟨o, h⟩) | h
  · cases h
  · cases h
  · exact .inr h

/-- the tape's address, and that of its cells -/
structure Tp where
  t : Addr
  c : Addr
  me : Addr := 0
  on : Bool := false
mutual
inductive Rep (K : PySem.W.Frag) (T : Tp) (M : Addr → Prop) (H : Hp) : V → D → Prop
  | non : Rep K T M H .non .non
  | bl (b : Bool) : Rep K T M H (.bl b) (.bl b)
  | int (i : Int) : Rep K T M H (.int i) (.int i)
  | str (s : Str) : Rep K T M H (.str s) (.str s)
  | tup {a : Addr} {vs : List V} {ds : List D} : H a = some (.tup vs) → ¬ M a → Reps K T M H vs ds → Rep K T M H (.ref a) (.tup ds)
  | wtup {a : Addr} {vs : List V} {ds : List D} : WrT K a vs → Reps K T M H vs ds → Rep K T M H (.ref a) (.tup ds)
  | lst {a : Addr} {vs : List V} {ds : List D} : H a = some (.lst vs) → ¬ M a → Reps K T M H vs ds → Rep K T M H (.ref a) (.lst ds)
  | dk {a : Addr} {ks : List Key} {vs : List V} {ds : List D} : H a = some (.dK (ks.zip vs)) → ¬ M a → ks.length = vs.length → Reps K T M H vs ds → Rep K T M H (.ref a) (.dk ks ds)
  | dt {a : Addr} {ks : List (List Key)} {vs : List V} {ds : List D} : H a = some (.dT (ks.zip vs)) → ¬ M a → ks.length = vs.length → Reps K T M H vs ds → Rep K T M H (.ref a) (.dt ks ds)
  | obj {a C dx : Addr} {c : Str} {ns : List Str} {vs : List V} {ds : List D} : H a = some (.ins C dx (ns.zip vs)) → C = He.ga K c → ¬ M a → ns.length = vs.length → Reps K T M H vs ds → Rep K T M H (.ref a) (.obj c ns ds)
  | tape : Rep K T M H (.ref T.t) .tape
inductive Reps (K : PySem.W.Frag) (T : Tp) (M : Addr → Prop) (H : Hp) : List V → List D → Prop
  | nil : Reps K T M H [] []
  | cons {v : V} {vs : List V} {d : D} {ds : List D} : Rep K T M H v d → Reps K T M H vs ds → Reps K T M H (v :: vs) (d :: ds)
end

section
variable {K : PySem.W.Frag} {T : Tp} {M M' : Addr → Prop} {H H' : Hp}
mutual
theorem Rep.keep (hM : ∀ a, H a ≠ none → M' a → M a) (hk : ∀ a o, ¬ M a → H a = some o → H' a = some o) : ∀ (d : D) (v : V), Rep K T M H v d → Rep K T M' H' v d
  | .non, _, h => by cases h; exact .non
  | .bl b, _, h => by cases h; exact .bl b
  | .int i, _, h => by cases h; exact .int i
  | .str s, _, h => by cases h; exact .str s
  | .tape, _, h => by cases h; exact .tape
  | .tup ds, _, h => by
    cases h with
    | tup h1 h2 h3 => exact .tup (hk _ _ h2 h1) (fun z => h2 (hM _ (by rw [h1]; simp) z)) (Reps.keep hM hk ds _ h3)
    | wtup h1 h3 => exact .wtup h1 (Reps.keep hM hk ds _ h3)
  | .lst ds, _, h => by
    cases h with
    | lst h1 h2 h3 => exact .lst (hk _ _ h2 h1) (fun z => h2 (hM _ (by rw [h1]; simp) z)) (Reps.keep hM hk ds _ h3)
  | .dk ks ds, _, h => by
    cases h with
    | dk h1 h2 hl h3 => exact .dk (hk _ _ h2 h1) (fun z => h2 (hM _ (by rw [h1]; simp) z)) hl (Reps.keep hM hk ds _ h3)
  | .dt ks ds, _, h => by
    cases h with
    | dt h1 h2 hl h3 => exact .dt (hk _ _ h2 h1) (fun z => h2 (hM _ (by rw [h1]; simp) z)) hl (Reps.keep hM hk ds _ h3)
  | .obj c ns ds, _, h => by
    cases h with
    | obj h1 hc h2 hl h3 => exact .obj (hk _ _ h2 h1) hc (fun z => h2 (hM _ (by rw [h1]; simp) z)) hl (Reps.keep hM hk ds _ h3)
theorem Reps.keep (hM : ∀ a, H a ≠ none → M' a → M a) (hk : ∀ a o, ¬ M a → H a = some o → H' a = some o) : ∀ (ds : List D) (vs : List V), Reps K T M H vs ds → Reps K T M' H' vs ds
  | [], _, h => by cases h; exact .nil
  | d :: ds, _, h => by
    cases h with
    | cons h1 h2 => exact .cons (Rep.keep hM hk d _ h1) (Reps.keep hM hk ds _ h2)
end
theorem Reps.length : ∀ {ds : List D} {vs : List V}, Reps K T M H vs ds → vs.length = ds.length
  | _, _, .nil => rfl
  | _, _, .cons _ t => congrArg Nat.succ (Reps.length t)
theorem Reps.append : ∀ {ds es : List D} {vs us : List V}, Reps K T M H vs ds → Reps K T M H us es → Reps K T M H (vs ++ us) (ds ++ es)
  | _, _, _, _, .nil, s => s
  | _, _, _, _, .cons r t, s => .cons r (Reps.append t s)
theorem Reps.get : ∀ {ds : List D} {vs : List V} {i : Nat} {d : D}, Reps K T M H vs ds → ds[i]? = some d → ∃ v, vs[i]? = some v ∧ Rep K T M H v d
  | _, _, _, _, .nil, e => by simp at e
  | _, _, 0, _, .cons r _, e => by simp at e; subst e; exact ⟨_, rfl, r⟩
  | _, _, i + 1, d, .cons _ t, e => by
    obtain ⟨u, h1, h2⟩ := Reps.get (i := i) (d := d) t (by simpa using e)
    exact ⟨u, by simpa using h1, h2⟩
theorem Reps.get' : ∀ {ds : List D} {vs : List V} {i : Nat} {v : V}, Reps K T M H vs ds → vs[i]? = some v → ∃ d, ds[i]? = some d ∧ Rep K T M H v d
  | _, _, _, _, .nil, e => by simp at e
  | _, _, 0, _, .cons r _, e => by simp at e; subst e; exact ⟨_, rfl, r⟩
  | _, _, i + 1, d, .cons _ t, e => by
    obtain ⟨u, h1, h2⟩ := Reps.get' (i := i) (v := d) t (by simpa using e)
    exact ⟨u, by simpa using h1, h2⟩
theorem Reps.take : ∀ (n : Nat) {ds : List D} {vs : List V}, Reps K T M H vs ds → Reps K T M H (vs.take n) (ds.take n)
  | 0, _, _, _ => by simpa using Reps.nil
  | _ + 1, _, _, .nil => by simpa using Reps.nil
  | n + 1, _, _, .cons r t => by simpa using Reps.cons r (Reps.take n t)
theorem Reps.drop : ∀ (n : Nat) {ds : List D} {vs : List V}, Reps K T M H vs ds → Reps K T M H (vs.drop n) (ds.drop n)
  | 0, _, _, h => by simpa using h
  | _ + 1, _, _, .nil => by simpa using Reps.nil
  | n + 1, _, _, .cons r t => by simpa using Reps.drop n t
theorem Reps.set : ∀ (n : Nat) {ds : List D} {vs : List V} {d : D} {v : V}, Reps K T M H vs ds → Rep K T M H v d → Reps K T M H (vs.set n v) (ds.set n d)
  | _, _, _, _, _, .nil, _ => by simpa using Reps.nil
  | 0, _, _, _, _, .cons _ t, r => by simpa using Reps.cons r t
  | n + 1, _, _, _, _, .cons q t, r => by simpa using Reps.cons q (Reps.set n t r)
theorem Reps.reverse : ∀ {ds : List D} {vs : List V}, Reps K T M H vs ds → Reps K T M H vs.reverse ds.reverse
  | _, _, .nil => by simpa using Reps.nil
  | _, _, .cons r t => by simpa using (Reps.reverse t).append (.cons r .nil)
theorem Reps.eraseIdx : ∀ (n : Nat) {ds : List D} {vs : List V}, Reps K T M H vs ds → Reps K T M H (vs.eraseIdx n) (ds.eraseIdx n)
  | _, _, _, .nil => by simpa using Reps.nil
  | 0, _, _, .cons _ t => by simpa using t
  | n + 1, _, _, .cons q t => by simpa using Reps.cons q (Reps.eraseIdx n t)
theorem Reps.rep {ds : List D} {vs : List V} (h : Reps K T M H vs ds) : ∀ k : Nat, Reps K T M H (List.replicate k vs).flatten (List.replicate k ds).flatten
  | 0 => by simpa using Reps.nil
  | k + 1 => by simpa [List.replicate_succ] using h.append (Reps.rep h k)
end

/-- the tape of a law: its cells, a count, what is left, a mix -/
def TapeOk (K : PySem.W.Frag) (M : Addr → Prop) (H : Hp) (T : Tp) : Prop :=
  ∃ (k acc mix : Int) (cells : List Int), H T.t = some (.lst [.ref T.c, .int k, .int acc, .int mix]) ∧ H T.c = some (.lst (cells.map V.int)) ∧ ¬ M T.c ∧ 0 ≤ k ∧ 0 ≤ acc ∧ 0 ≤ mix

/-- what an expression may do: new objects, and draws -/
structure Grow (K : PySem.W.Frag) (T : Tp) (M : Addr → Prop) (H H' : Hp) : Prop where
  keep : ∀ a o, a ≠ T.t → H a = some o → H' a = some o
  tape : TapeOk K M H' T
/-- a good heap for T, M -/
structure Wd (K : PySem.W.Frag) (T : Tp) (M : Addr → Prop) (H : Hp) : Prop where
  tape : TapeOk K M H T
  mT : M T.t
  md : ∀ a, M a → H a ≠ none
section
variable {K : PySem.W.Frag} {T : Tp} {M M' : Addr → Prop} {H H1 H2 H' : Hp} {p : Addr} {o : HO}
theorem Grow.refl (w : Wd K T M H) : Grow K T M H H := ⟨fun _ _ _ h => h, w.tape⟩
theorem Grow.trans (a : Grow K T M H H1) (b : Grow K T M H1 H2) : Grow K T M H H2 := ⟨fun x o n h => b.keep x o n (a.keep x o n h), b.tape⟩
theorem TapeOk.ne (t : TapeOk K M H T) : H T.t ≠ none := by
  obtain ⟨k, acc, mix, cells, h, _⟩ := t
  rw [h]; simp
theorem Wd.grow (w : Wd K T M H) (g : Grow K T M H H') : Wd K T M H' := ⟨g.tape, w.mT, fun a h => by
  by_cases e : a = T.t
  · subst e; exact g.tape.ne
  · cases q : H a with
    | none => exact absurd q (w.md a h)
    | some o => rw [g.keep a o e q]; simp⟩
theorem Wd.rep (w : Wd K T M H) (g : Grow K T M H H') {d : D} {v : V} (r : Rep K T M H v d) : Rep K T M H' v d :=
  Rep.keep (fun _ _ z => z) (fun a o n h => g.keep a o (fun e => n (e ▸ w.mT)) h) d v r
theorem Wd.reps (w : Wd K T M H) (g : Grow K T M H H') {d : List D} {v : List V} (r : Reps K T M H v d) : Reps K T M H' v d :=
  Reps.keep (fun _ _ z => z) (fun a o n h => g.keep a o (fun e => n (e ▸ w.mT)) h) d v r
/-- a new object -/
theorem TapeOk.upd (t : TapeOk K M H T) (h : H p = none) : TapeOk K M (upd H p o) T := by
  obtain ⟨k, acc, mix, cells, h1, h2, r⟩ := t
  exact ⟨k, acc, mix, cells, by rw [upd_ne (ne_of_none h1 h)]; exact h1, by rw [upd_ne (ne_of_none h2 h)]; exact h2, r⟩
theorem Grow.new (w : Wd K T M H) (h : H p = none) : Grow K T M H (upd H p o) := ⟨fun a u _ e => by rw [upd_ne (ne_of_none e h)]; exact e, w.tape.upd h⟩
theorem Wd.fresh (w : Wd K T M H) (h : H p = none) : ¬ M p := fun z => w.md p z h
end

/-! ### slots -/
/-- an owned object -/
def OwnR (K : PySem.W.Frag) (T : Tp) (M : Addr → Prop) (H : Hp) (l : Addr) : D → Prop
  | .lst ds => ∃ vs, H l = some (.lst vs) ∧ Reps K T M H vs ds
  | .dk ks ds => ∃ vs, H l = some (.dK (ks.zip vs)) ∧ ks.length = vs.length ∧ Reps K T M H vs ds
  | .dt ks ds => ∃ vs, H l = some (.dT (ks.zip vs)) ∧ ks.length = vs.length ∧ Reps K T M H vs ds
  | .obj c ns ds => ∃ C dx vs, H l = some (.ins C dx (ns.zip vs)) ∧ C = He.ga K c ∧ ns.length = vs.length ∧ Reps K T M H vs ds ∧ (T.on = true → l = T.me)
  | _ => False
/-- the ghost of a body: its tape, what it may not touch, the heap at its entry -/
structure Gh where
  T : Tp
  M0 : Addr → Prop
  H0 : Hp
  h : M0 T.t
  d : ∀ a, M0 a → H0 a ≠ none
def SlotOk (K : PySem.W.Frag) (g : Gh) (M : Addr → Prop) (H : Hp) (o : Option V) : Slot → Prop
  | .non => True
  | .val d => ∃ v, o = some v ∧ Rep K g.T M H v d
  | .own d => ∃ l, o = some (.ref l) ∧ M l ∧ l ≠ g.T.t ∧ g.H0 l = none ∧ OwnR K g.T M H l d
structure SR (K : PySem.W.Frag) (g : Gh) (M : Addr → Prop) (σ : L2.St) (H : Hp) (env : AEnv) : Prop where
  wd : Wd K g.T M H
  m0 : ∀ a, g.M0 a → M a
  mh : ∀ a, M a → g.M0 a ∨ g.H0 a = none
  gr : ∀ a o, a ≠ g.T.t → g.H0 a = some o → H a = some o
  len : σ.length = env.length
  sl : ∀ (i : Nat) (s : Slot), env[i]? = some s → SlotOk K g M H (σ.getD i none) s
  dis : ∀ (i j : Nat) (l : Addr) (d e : D), i ≠ j → env[i]? = some (Slot.own d) → env[j]? = some (Slot.own e) → σ[i]? = some (some (V.ref l)) → σ[j]? = some (some (V.ref l)) → False
section
variable {K : PySem.W.Frag} {g : Gh} {M M' : Addr → Prop} {σ : L2.St} {H H' : Hp} {env : AEnv} {l : Addr} {d : D}
theorem OwnR.keep (hM : ∀ a, H a ≠ none → M' a → M a) (hk : ∀ a o, ¬ M a → H a = some o → H' a = some o) (hl : ∀ o, H l = some o → H' l = some o) : OwnR K g.T M H l d → OwnR K g.T M' H' l d := by
  cases d with
  | lst ds => rintro ⟨vs, h, r⟩; exact ⟨vs, hl _ h, Reps.keep hM hk _ _ r⟩
  | dk ks ds => rintro ⟨vs, h, e, r⟩; exact ⟨vs, hl _ h, e, Reps.keep hM hk _ _ r⟩
  | dt ks ds => rintro ⟨vs, h, e, r⟩; exact ⟨vs, hl _ h, e, Reps.keep hM hk _ _ r⟩
  | obj c ns ds => rintro ⟨C, dx, vs, h, hc, e, r, me⟩; exact ⟨C, dx, vs, hl _ h, hc, e, Reps.keep hM hk _ _ r, me⟩
  | _ => exact fun z => z
theorem SlotOk.keep {o : Option V} {s : Slot} (hM : ∀ a, H a ≠ none → M' a → M a) (hM2 : ∀ a, M a → M' a) (hk : ∀ a o, ¬ M a → H a = some o → H' a = some o) (hl : ∀ l d, s = .own d → o = some (.ref l) → ∀ o, H l = some o → H' l = some o) :
    SlotOk K g M H o s → SlotOk K g M' H' o s := by
  cases s with
  | non => exact fun z => z
  | val d => rintro ⟨v, e, r⟩; exact ⟨v, e, Rep.keep hM hk d v r⟩
  | own d => rintro ⟨l, e, ml, nT, h0, r⟩; exact ⟨l, e, hM2 _ ml, nT, h0, OwnR.keep hM hk (hl l d rfl e) r⟩
theorem SR.grow (s : SR K g M σ H env) (gw : Grow K g.T M H H') : SR K g M σ H' env where
  wd := s.wd.grow gw
  m0 := s.m0
  mh := s.mh
  gr := fun a o n h => gw.keep a o n (s.gr a o n h)
  len := s.len
  sl := fun i x e => by
    refine SlotOk.keep (fun _ _ z => z) (fun _ z => z) (fun a o n h => gw.keep a o (fun e => n (e ▸ s.wd.mT)) h) (fun l d e1 e2 o h => ?_) (s.sl i x e)
    have q := s.sl i x e
    subst e1
    obtain ⟨l', e3, _, nT, _⟩ := q
    rw [e2] at e3
    cases e3
    exact gw.keep _ _ nT h
  dis := s.dis
theorem SR.reps0 (s : SR K g M σ H env) {vs : List V} {ds : List D} (r : Reps K g.T M H vs ds) : Reps K g.T g.M0 H vs ds := Reps.keep (fun a _ z => s.m0 a z) (fun _ _ _ h => h) ds vs r
theorem SR.rep0 (s : SR K g M σ H env) {v : V} {d : D} (r : Rep K g.T M H v d) : Rep K g.T g.M0 H v d := Rep.keep (fun a _ z => s.m0 a z) (fun _ _ _ h => h) d v r
theorem TapeOk.mono {T : Tp} (t : TapeOk K M H T) (h : ∀ a, H a ≠ none → M' a → M a) : TapeOk K M' H T := by
  obtain ⟨k, acc, mix, cells, h1, h2, h3, r⟩ := t
  exact ⟨k, acc, mix, cells, h1, h2, fun z => h3 (h T.c (by rw [h2]; simp) z), r⟩
theorem SR.grow0 (s : SR K g M σ H env) : Grow K g.T g.M0 g.H0 H := ⟨s.gr, s.wd.tape.mono fun a _ z => s.m0 a z⟩
end

/-! ### judgements -/
/-- a borrowed value: it, or an owned object as it stands -/
def BRep (K : PySem.W.Frag) (T : Tp) (M : Addr → Prop) (H : Hp) (v : V) (d : D) : Prop := Rep K T M H v d ∨ ∃ l, v = .ref l ∧ l ≠ T.t ∧ M l ∧ OwnR K T M H l d
theorem Wd.brep {K : PySem.W.Frag} {T : Tp} {M : Addr → Prop} {H H' : Hp} (w : Wd K T M H) (g : Grow K T M H H') {d : D} {v : V} (r : BRep K T M H v d) : BRep K T M H' v d := by
  rcases r with r | ⟨l, e, n, m, r⟩
  · exact .inl (w.rep g r)
  · refine .inr ⟨l, e, n, m, ?_⟩
    exact OwnR.keep (g := ⟨T, fun a => a = T.t, fun _ => some (.lst []), rfl, fun _ _ => by simp⟩) (fun _ _ z => z) (fun a o n h => g.keep a o (fun e => n (e ▸ w.mT)) h) (fun o h => g.keep _ _ n h) r
def tP (K : PySem.W.Frag) (f : FE) : TE := fun σ H Q => ∃ g M env Qd, SR K g M σ H env ∧ f env Qd ∧ ∀ d v H', Qd d → Grow K g.T M H H' → Rep K g.T M H' v d → Q v H'
def tB (K : PySem.W.Frag) (f : FE) : TE := fun σ H Q => ∃ g M env Qd, SR K g M σ H env ∧ f env Qd ∧ ∀ d v H', Qd d → Grow K g.T M H H' → BRep K g.T M H' v d → Q v H'
/-- a list (or a dict) just made, known to nobody -/
def FRep (K : PySem.W.Frag) (T : Tp) (M : Addr → Prop) (H H' : Hp) (v : V) (d : D) : Prop := ∃ l, v = .ref l ∧ H l = none ∧ OwnR K T (fun a => M a ∨ a = l) H' l d
def tF (K : PySem.W.Frag) (f : FE) : TE := fun σ H Q => ∃ g M env Qd, SR K g M σ H env ∧ f env Qd ∧ ∀ d v H', Qd d → Grow K g.T M H H' → FRep K g.T M H H' v d → Q v H'
def tPA (K : PySem.W.Frag) (f : FEs) : TA := fun σ H Q => ∃ g M env Qd, SR K g M σ H env ∧ f env Qd ∧ ∀ d v H', Qd d → Grow K g.T M H H' → Reps K g.T M H' v d → Q v H'
def tPT (K : PySem.W.Frag) (f : FT) : TT := fun σ H Q => ∃ g M env Qd, SR K g M σ H env ∧ f env Qd ∧ ∀ b H', Qd b → Grow K g.T M H H' → Q b H'
structure EndsOk (K : PySem.W.Frag) (g : Gh) (A : AEnds) (Dn : Ends) : Prop where
  nx : ∀ env M σ H, A.nx env → SR K g M σ H env → Dn.nx σ H
  rt : ∀ d v H, A.rt d → Grow K g.T g.M0 g.H0 H → Rep K g.T g.M0 H v d → Dn.rt v H
  bk : ∀ env M σ H, A.bk env → SR K g M σ H env → Dn.bk σ H
  ct : ∀ env M σ H, A.ct env → SR K g M σ H env → Dn.ct σ H
def tPS (K : PySem.W.Frag) (F : FS) : TS := fun Dn σ H => ∃ g M env A, SR K g M σ H env ∧ F A env ∧ EndsOk K g A Dn
abbrev PP (X : Cx) (e : Expr) (f : FE) : Prop := PE X e (tP X.K f)
abbrev PB (X : Cx) (e : Expr) (f : FE) : Prop := PE X e (tB X.K f)
abbrev PF (X : Cx) (e : Expr) (f : FE) : Prop := PE X e (tF X.K f)
abbrev PPA (X : Cx) (es : List Expr) (f : FEs) : Prop := PA X es (tPA X.K f)
abbrev PPT (X : Cx) (e : Expr) (f : FT) : Prop := PT X e (tPT X.K f)
abbrev PPS (X : Cx) (st : Stmt) (F : FS) : Prop := PS X st (tPS X.K F)
abbrev PPSs (X : Cx) (sts : List Stmt) (F : FS) : Prop := PSs X sts (tPS X.K F)

section
variable {X : Cx}
theorem _root_.L2.PE.imp {e : Expr} {t t' : TE} (h : PE X e t) (w : ∀ σ H Q, t' σ H Q → t σ H Q) : PE X e t' := ⟨fun pins s σ H Q I q => h.run pins s σ H Q I (w _ _ _ q)⟩
theorem _root_.L2.PT.imp {e : Expr} {t t' : TT} (h : PT X e t) (w : ∀ σ H Q, t' σ H Q → t σ H Q) : PT X e t' := ⟨fun pins s σ H Q I q => h.run pins s σ H Q I (w _ _ _ q)⟩
theorem _root_.L2.PA.imp {e : List Expr} {t t' : TA} (h : PA X e t) (w : ∀ σ H Q, t' σ H Q → t σ H Q) : PA X e t' := ⟨fun pos pins s σ H Q I q => h.run pos pins s σ H Q I (w _ _ _ q)⟩
theorem _root_.L2.PS.imp {e : Stmt} {t t' : TS} (h : PS X e t) (w : ∀ D σ H, t' D σ H → t D σ H) : PS X e t' := ⟨fun pins s σ H D I q => h.run pins s σ H D I (w _ _ _ q)⟩
theorem _root_.L2.PSs.imp {e : List Stmt} {t t' : TS} (h : PSs X e t) (w : ∀ D σ H, t' D σ H → t D σ H) : PSs X e t' := ⟨fun pins s σ H D I q => h.run pins s σ H D I (w _ _ _ q)⟩

/-! ### names, constants -/
theorem SR.slot {K : PySem.W.Frag} {g : Gh} {M : Addr → Prop} {σ : L2.St} {H : Hp} {env : AEnv} (s : SR K g M σ H env) {i : Nat} {x : Slot} (e : env[i]? = some x) : ∃ o, σ[i]? = some o ∧ SlotOk K g M H o x := by
  have hl : i < env.length := by
    rcases Nat.lt_or_ge i env.length with h | h
    · exact h
    · rw [List.getElem?_eq_none h] at e; cases e
  have h2 : i < σ.length := by rw [s.len]; exact hl
  refine ⟨σ[i], List.getElem?_eq_getElem h2, ?_⟩
  have q := s.sl i x e
  rw [List.getD_eq_getElem?_getD, List.getElem?_eq_getElem h2] at q
  exact q
theorem pp_var (i : Nat) {x : Str} {pos : Pos} (hN : X.N[i]? = some x := by rfl) (hv : Vis X.env.scope x := by first | exact Or.inl rfl | exact Or.inr (Or.inl rfl) | exact Or.inr (Or.inr rfl)) (hd : (x == ("__debug__" : Str)) = false := by decide)
    (hcd : (x == ("__classdict__" : Str)) = false := by decide) : PP X (.Name x pos) (wVar i) :=
  (pv i hN hv hd hcd).imp fun σ H Q ⟨g, M, env, Qd, s, ⟨d, e, q⟩, k⟩ => by
    obtain ⟨o, e1, v, e2, r⟩ := s.slot e
    subst e2
    exact ⟨v, e1, k d v H q (.refl s.wd) r⟩
theorem pb_own (i : Nat) {x : Str} {pos : Pos} (hN : X.N[i]? = some x := by rfl) (hv : Vis X.env.scope x := by first | exact Or.inl rfl | exact Or.inr (Or.inl rfl) | exact Or.inr (Or.inr rfl)) (hd : (x == ("__debug__" : Str)) = false := by decide)
    (hcd : (x == ("__classdict__" : Str)) = false := by decide) : PB X (.Name x pos) (wOwn i) :=
  (pv i hN hv hd hcd).imp fun σ H Q ⟨g, M, env, Qd, s, ⟨d, e, q⟩, k⟩ => by
    obtain ⟨o, e1, l, e2, ml, nT, h0, r⟩ := s.slot e
    subst e2
    exact ⟨_, e1, k d _ H q (.refl s.wd) (.inr ⟨l, rfl, nT, ml, r⟩)⟩
theorem pb {e : Expr} {f : FE} (h : PP X e f) : PB X e f := PE.imp h fun σ H Q ⟨g, M, env, Qd, s, q, k⟩ => ⟨g, M, env, Qd, s, q, fun d v H' a b c => k d v H' a b (.inl c)⟩
/-- a fresh object is a value -/
theorem OwnR.rep {K : PySem.W.Frag} {T : Tp} {M M' : Addr → Prop} {H : Hp} {l : Addr} {d : D} (hM : ∀ a, M a → M' a) (n : ¬ M l) (h : OwnR K T M' H l d) : Rep K T M H (.ref l) d := by
  have kp : ∀ {vs ds}, Reps K T M' H vs ds → Reps K T M H vs ds := fun {vs ds} r => Reps.keep (fun a _ z => hM a z) (fun _ _ _ h => h) ds vs r
  cases d with
  | lst ds => obtain ⟨vs, h, r⟩ := h; exact .lst h n (kp r)
  | dk ks ds => obtain ⟨vs, h, e, r⟩ := h; exact .dk h n e (kp r)
  | dt ks ds => obtain ⟨vs, h, e, r⟩ := h; exact .dt h n e (kp r)
  | obj c ns ds => obtain ⟨C, dx, vs, h, hc, e, r, _⟩ := h; exact .obj h hc n e (kp r)
  | _ => exact h.elim
theorem pf {e : Expr} {f : FE} (h : PF X e f) : PP X e f := PE.imp h fun σ H Q ⟨g, M, env, Qd, s, q, k⟩ => ⟨g, M, env, Qd, s, q, fun d v H' a b ⟨l, e1, n, r⟩ => by
  subst e1
  exact k d _ H' a b (r.rep (fun _ z => .inl z) (s.wd.fresh n))⟩
theorem pp_c {e : Expr} {v : V} {d : D} (h : PE X e (tC v)) (r : ∀ K T M H, Rep K T M H v d) : PP X e (wC d) := h.imp fun σ H Q ⟨g, M, env, Qd, s, q, k⟩ => k d v H q (.refl s.wd) (r _ _ _ _)
theorem pp_int {i j pos} : PP X (.Constant (.int i) j pos) (wC (.int i)) := pp_c pe_int fun _ _ _ _ => .int i
theorem pp_bl {i j pos} : PP X (.Constant (.bool i) j pos) (wC (.bl i)) := pp_c pe_bl fun _ _ _ _ => .bl i
theorem pp_str {i j pos} : PP X (.Constant (.str i) j pos) (wC (.str i)) := pp_c pe_str fun _ _ _ _ => .str i
theorem pp_non {j pos} : PP X (.Constant .none j pos) (wC .non) := pp_c pe_non fun _ _ _ _ => .non

/-! ### operators -/
/-- φ is what the operator's rule r makes of data -/
def OpA (K : PySem.W.Frag) (r : R2) (φ : D → D → (D → Prop) → Prop) : Prop :=
  ∀ (T : Tp) (M : Addr → Prop) (H : Hp) (x y : V) (dx dy : D) (Q : VK) (Qd : D → Prop), Wd K T M H → BRep K T M H x dx → BRep K T M H y dy → φ dx dy Qd → (∀ d v H', Qd d → Grow K T M H H' → Rep K T M H' v d → Q v H') → r x y H Q
theorem tOp_of {K : PySem.W.Frag} {r : R2} {φ : D → D → (D → Prop) → Prop} {fa fb : FE} (hφ : OpA K r φ) (σ : L2.St) (H : Hp) (Q : VK) (h : tP K (wBin φ fa fb) σ H Q) : tOp r (tB K fa) (tB K fb) σ H Q := by
  obtain ⟨g, M, env, Qd, s, q, k⟩ := h
  refine ⟨g, M, env, _, s, q, fun dx x H1 q1 g1 r1 => ?_⟩
  have s1 := s.grow g1
  refine ⟨g, M, env, _, s1, q1, fun dy y H2 q2 g2 r2 => ?_⟩
  exact hφ g.T M H2 x y dx dy Q Qd (s1.grow g2).wd (s1.wd.brep g2 r1) r2 q2 fun d v H' a b c => k d v H' a ((g1.trans g2).trans b) c
theorem pp_op {op : Operator} {r : R2} {φ : D → D → (D → Prop) → Prop} {fa fb : FE} {a b : Expr} {pos : Pos} (ho : OpR X (binaryOp op) r) (hφ : OpA X.K r φ) (ha : PB X a fa) (hb : PB X b fb) : PP X (.BinOp a op b pos) (wBin φ fa fb) :=
  (pe_op ho ha hb).imp fun σ H Q h => tOp_of hφ σ H Q h
theorem pp_cmp {op : CmpOp} {r : R2} {φ : D → D → (D → Prop) → Prop} {fa fb : FE} {a b : Expr} {pos : Pos} (ho : OpR X (compareOp op) r) (hφ : OpA X.K r φ) (ha : PB X a fa) (hb : PB X b fb) (hm : behindInMarks op b = false) : PP X (.Compare a [op] [b] pos) (wBin φ fa fb) :=
  (pe_cmpR ho ha hb hm).imp fun σ H Q h => tOp_of hφ σ H Q h
theorem pp_ix {r : R2} {φ : D → D → (D → Prop) → Prop} {fa fb : FE} {a b : Expr} {pos : Pos} (ho : IxR X r) (hφ : OpA X.K r φ) (ha : PB X a fa) (hb : PB X b fb) (hs : PlainIx b := by intro _ _; rfl) : PP X (.Subscript a b pos) (wBin φ fa fb) :=
  (pe_ix ho ha hb hs).imp fun σ H Q h => tOp_of hφ σ H Q h
theorem OpA.or {K : PySem.W.Frag} {r r' : R2} {φ φ' : D → D → (D → Prop) → Prop} (h : OpA K r φ) (h' : OpA K r' φ') : OpA K (fun x y H Q => r x y H Q ∨ r' x y H Q) (fun x y Q => φ x y Q ∨ φ' x y Q) :=
  fun T M H x y dx dy Q Qd w r1 r2 q k => q.elim (fun q => .inl (h T M H x y dx dy Q Qd w r1 r2 q k)) fun q => .inr (h' T M H x y dx dy Q Qd w r1 r2 q k)
end
end Pl
end

section
set_option Elab.async false
set_option linter.all false
set_option maxRecDepth 100000
set_option maxHeartbeats 1000000
set_option autoImplicit false
namespace Pl
open PySem PySem.Spec PyProof.Rows L2
theorem line_eq : (sizeLine : Nat) = 16777216 := sizeLine_eq
section
variable {K : PySem.W.Frag} {T : Tp} {M : Addr → Prop} {H : Hp} {v : V}
theorem BRep.int {i : Int} (r : BRep K T M H v (.int i)) : v = .int i := by
  rcases r with r | ⟨l, _, _, _, z⟩
  · cases r; rfl
  · exact z.elim
theorem BRep.bl {i : Bool} (r : BRep K T M H v (.bl i)) : v = .bl i := by
  rcases r with r | ⟨l, _, _, _, z⟩
  · cases r; rfl
  · exact z.elim
theorem BRep.str {i : Str} (r : BRep K T M H v (.str i)) : v = .str i := by
  rcases r with r | ⟨l, _, _, _, z⟩
  · cases r; rfl
  · exact z.elim
theorem BRep.non (r : BRep K T M H v .non) : v = .non := by
  rcases r with r | ⟨l, _, _, _, z⟩
  · cases r; rfl
  · exact z.elim
theorem BRep.lst {ds : List D} (r : BRep K T M H v (.lst ds)) : ∃ a vs, v = .ref a ∧ H a = some (.lst vs) ∧ Reps K T M H vs ds := by
  rcases r with r | ⟨l, e, _, _, vs, h, r⟩
  · cases r with
    | lst h1 h2 h3 => exact ⟨_, _, rfl, h1, h3⟩
  · exact ⟨l, vs, e, h, r⟩
theorem BRep.tup {ds : List D} (r : BRep K T M H v (.tup ds)) : ∃ a vs, v = .ref a ∧ SqT K H a vs ∧ Reps K T M H vs ds := by
  rcases r with r | ⟨l, _, _, _, z⟩
  · cases r with
    | tup h1 h2 h3 => exact ⟨_, _, rfl, .of h1, h3⟩
    | wtup h1 h3 => exact ⟨_, _, rfl, h1.sq, h3⟩
  · exact z.elim
theorem Reps.inv_nil {vs : List V} (r : Reps K T M H vs []) : vs = [] := by cases r; rfl
theorem Reps.inv_cons {vs : List V} {d : D} {ds : List D} (r : Reps K T M H vs (d :: ds)) : ∃ v us, vs = v :: us ∧ Rep K T M H v d ∧ Reps K T M H us ds := by
  cases r with
  | cons a b => exact ⟨_, _, rfl, a, b⟩
theorem Rep.b {d : D} (r : Rep K T M H v d) : BRep K T M H v d := .inl r
end
section
variable {K : PySem.W.Frag}
/-! ### operators -/
theorem opa_int {C : Int → Int → Prop} {f : Int → Int → V} {g : Int → Int → D} {C' : Int → Int → Prop} (hC : ∀ i j, C' i j → C i j) (h : ∀ T M H i j, Rep K T M H (f i j) (g i j)) : OpA K (rI C f) (dInt2 C' g) := by
  intro T M H x y dx dy Q Qd w r1 r2 q k
  unfold dInt2 at q
  split at q
  · have e1 := r1.int
    have e2 := r2.int
    exact ⟨_, _, e1, e2, hC _ _ q.1, k _ _ _ q.2 (.refl w) (h _ _ _ _ _)⟩
  · exact q.elim
theorem opa_int0 {f : Int → Int → V} {g : Int → Int → D} (h : ∀ T M H i j, Rep K T M H (f i j) (g i j)) : OpA K (rI0 f) (dInt2 (fun _ _ => True) g) := by
  intro T M H x y dx dy Q Qd w r1 r2 q k
  unfold dInt2 at q
  split at q
  · exact ⟨_, _, r1.int, r2.int, k _ _ _ q.2 (.refl w) (h _ _ _ _ _)⟩
  · exact q.elim
theorem a_sub : OpA K (rI0 fun i j => .int (i - j)) dSub := opa_int0 fun _ _ _ _ _ => .int _
theorem a_lt : OpA K (rI0 fun i j => .bl (decide (i < j))) dLt := opa_int0 fun _ _ _ _ _ => .bl _
theorem a_le : OpA K (rI0 fun i j => .bl (decide (i ≤ j))) dLe := opa_int0 fun _ _ _ _ _ => .bl _
theorem a_gt : OpA K (rI0 fun i j => .bl (decide (j < i))) dGt := opa_int0 fun _ _ _ _ _ => .bl _
theorem a_ge : OpA K (rI0 fun i j => .bl (decide (j ≤ i))) dGe := opa_int0 fun _ _ _ _ _ => .bl _
theorem a_fdiv : OpA K (rI CDivW fun i j => .int (i / j)) dFdiv := opa_int (fun _ _ h => h) fun _ _ _ _ _ => .int _
theorem a_mod : OpA K (rI (fun _ j => 0 < j) fun i j => .int (i % j)) dMod := opa_int (fun _ _ h => h) fun _ _ _ _ _ => .int _
theorem a_pow : OpA K (rI CPow fun i j => .int (i ^ j.toNat)) dPow := opa_int (fun _ _ h => h) fun _ _ _ _ _ => .int _
section
variable {X : Cx}
abbrev rMulA : R2 := fun x y H Q => (rI CMul fun i j => .int (i * j)) x y H Q ∨ ((rI CMulW fun i j => .int (i * j)) x y H Q ∨ rRep x y H Q)
theorem op_mulA : OpR X (binaryOp .Mult) rMulA := op_mul.or (op_mulW.or op_rep)
abbrev rAddA (K : PySem.W.Frag) : R2 := fun x y H Q => (rI0 fun i j => .int (i + j)) x y H Q ∨ ((fun x y H Q => ∃ i j, x = .str i ∧ y = .str j ∧ i.length + j.length ≤ sizeLine ∧ Q (.str (i ++ j)) H) x y H Q ∨ (rCat x y H Q ∨ rCatT K x y H Q))
theorem op_addA : OpR X (binaryOp .Add) (rAddA X.K) := op_add.or (op_add_str.or (op_cat.or op_catT))
end
theorem a_mul : OpA K rMulA dMul := by
  intro T M H x y dx dy Q Qd w r1 r2 q k
  unfold dMul at q
  split at q
  · rename_i i j
    obtain ⟨c, q⟩ := q
    have kk := k _ _ _ q (.refl w) (.int _)
    rcases c with c | c | c
    · exact .inl ⟨_, _, r1.int, r2.int, .inl c, kk⟩
    · exact .inl ⟨_, _, r1.int, r2.int, .inr c, kk⟩
    · exact .inr (.inl ⟨_, _, r1.int, r2.int, c, kk⟩)
  · rename_i a j
    obtain ⟨⟨c1, c2, c3⟩, q⟩ := q
    obtain ⟨l, vs, e, h, rs⟩ := r1.lst
    refine .inr (.inr ⟨l, j, vs, e, r2.int, h, c1, c2, by rw [line_eq, rs.length]; exact c3, ?_⟩)
    intro p hp
    have g : Grow K T M H (upd H p (.lst (List.replicate j.toNat vs).flatten)) := .new w hp
    exact k _ _ _ q g (.lst upd_same (w.fresh hp) (w.reps g (rs.rep _)))
  · exact q.elim
theorem a_add : OpA K (rAddA K) dAdd := by
  intro T M H x y dx dy Q Qd w r1 r2 q k
  unfold dAdd at q
  split at q
  · exact .inl ⟨_, _, r1.int, r2.int, k _ _ _ q (.refl w) (.int _)⟩
  · exact .inr (.inl ⟨_, _, r1.str, r2.str, by rw [line_eq]; exact q.1, k _ _ _ q.2 (.refl w) (.str _)⟩)
  · obtain ⟨l, vs, e, h, rs⟩ := r1.lst
    obtain ⟨l', vs', e', h', rs'⟩ := r2.lst
    refine .inr (.inr (.inl ⟨l, l', vs, vs', e, e', h, h', by rw [line_eq, rs.length, rs'.length]; exact q.1, ?_⟩))
    intro p hp
    have g : Grow K T M H (upd H p (.lst (vs ++ vs'))) := .new w hp
    exact k _ _ _ q.2 g (.lst upd_same (w.fresh hp) (w.reps g (rs.append rs')))
  · rename_i a b
    obtain ⟨l, vs, e, h, rs⟩ := r1.tup
    obtain ⟨l', vs', e', h', rs'⟩ := r2.tup
    obtain ⟨ne, hl, q⟩ := q
    refine .inr (.inr (.inr ⟨l, l', vs, vs', e, e', h, h', fun z => ?_, by rw [line_eq, rs.length, rs'.length]; exact hl, fun z => ?_, fun _ p hp => ?_⟩))
    · subst z
      have := rs.length
      exact ne (List.length_eq_zero_iff.mp this.symm)
    · subst z
      have hb := rs'.length
      have e0 : b = [] := List.length_eq_zero_iff.mp hb.symm
      subst e0
      rw [List.append_nil] at q
      subst e
      rcases r1 with r1 | ⟨_, _, _, _, z⟩
      · exact k _ _ _ q (.refl w) r1
      · exact z.elim
    · have g : Grow K T M H (upd H p (.tup (vs ++ vs'))) := .new w hp
      exact k _ _ _ q g (.tup upd_same (w.fresh hp) (w.reps g (rs.append rs')))
  · exact q.elim
end
end Pl
end

section
set_option Elab.async false
set_option linter.all false
set_option maxRecDepth 100000
set_option maxHeartbeats 1000000
set_option autoImplicit false
namespace Pl
open PySem PySem.Spec PyProof.Rows L2
/-! ### equality -/
mutual
def toPy : D → PyData
  | .non => .none
  | .bl b => .bool b
  | .int i => .int i
  | .str s => .str s
  | .tup xs => .tuple (toPys xs)
  | .lst xs => .list (toPys xs)
  | .dk _ _ => .dict []
  | .dt _ _ => .dict []
  | .obj _ _ _ => .dict []
  | .tape => .dict []
def toPys : List D → List PyData
  | [] => []
  | x :: xs => toPy x :: toPys xs
end
mutual
theorem eqv_deq : ∀ (n m : Nat) (x y : D), plain n x = true → plain m y = true → PyData.eqv (toPy x) (toPy y) = deq x y
  | n, m, .non, y, h, h' => by cases y <;> simp_all [toPy, deq, PyData.eqv, plain]
  | n, m, .bl b, y, h, h' => by cases y <;> simp_all [toPy, deq, PyData.eqv, plain]
  | n, m, .int b, y, h, h' => by cases y <;> simp_all [toPy, deq, PyData.eqv, plain]
  | n, m, .str b, y, h, h' => by cases y <;> simp_all [toPy, deq, PyData.eqv, plain]
  | 0, m, .tup xs, y, h, h' => by simp [plain] at h
  | 0, m, .lst xs, y, h, h' => by simp [plain] at h
  | n + 1, m, .tup xs, y, h, h' => by
    cases y with
    | tup ys =>
      cases m with
      | zero => simp [plain] at h'
      | succ m =>
        simp only [toPy, deq, PyData.eqv]
        exact eqvs_deqs n m xs ys (by simpa [plain] using h) (by simpa [plain] using h')
    | _ => simp_all [toPy, deq, PyData.eqv, plain]
  | n + 1, m, .lst xs, y, h, h' => by
    cases y with
    | lst ys =>
      cases m with
      | zero => simp [plain] at h'
      | succ m =>
        simp only [toPy, deq, PyData.eqv]
        exact eqvs_deqs n m xs ys (by simpa [plain] using h) (by simpa [plain] using h')
    | _ => simp_all [toPy, deq, PyData.eqv, plain]
  | n, m, .dk ks ds, y, h, h' => by cases n <;> simp [plain] at h
  | n, m, .dt ks ds, y, h, h' => by cases n <;> simp [plain] at h
  | n, m, .obj c ks ds, y, h, h' => by cases n <;> simp [plain] at h
  | n, m, .tape, y, h, h' => by cases n <;> simp [plain] at h
theorem eqvs_deqs : ∀ (n m : Nat) (xs ys : List D), plains n xs = true → plains m ys = true → PyData.eqvAll (toPys xs) (toPys ys) = deqs xs ys
  | n, m, [], ys, h, h' => by cases ys <;> simp_all [toPys, deqs, PyData.eqvAll, plains]
  | n, m, x :: xs, [], h, h' => by simp_all [toPys, deqs, PyData.eqvAll, plains]
  | n, m, x :: xs, y :: ys, h, h' => by
    have h1 : plain n x = true ∧ plains n xs = true := by simpa [plains] using h
    have h2 : plain m y = true ∧ plains m ys = true := by simpa [plains] using h'
    simp only [toPys, deqs, PyData.eqvAll]
    rw [eqv_deq n m x y h1.1 h2.1, eqvs_deqs n m xs ys h1.2 h2.2]
end
mutual
theorem canLay_plain : ∀ (n : Nat) (x : D), plain n x = true → (toPy x).canLay0 = true
  | n, .non, h => rfl
  | n, .bl b, h => rfl
  | n, .int b, h => rfl
  | n, .str b, h => by simpa [plain, toPy, PyData.canLay0, okStr, PyData.strOk] using h
  | 0, .tup xs, h => by simp [plain] at h
  | 0, .lst xs, h => by simp [plain] at h
  | n + 1, .tup xs, h => by simpa [toPy, PyData.canLay0] using canLays_plain n xs (by simpa [plain] using h)
  | n + 1, .lst xs, h => by simpa [toPy, PyData.canLay0] using canLays_plain n xs (by simpa [plain] using h)
  | n, .dk ks ds, h => by cases n <;> simp [plain] at h
  | n, .dt ks ds, h => by cases n <;> simp [plain] at h
  | n, .obj c ks ds, h => by cases n <;> simp [plain] at h
  | n, .tape, h => by cases n <;> simp [plain] at h
theorem canLays_plain : ∀ (n : Nat) (xs : List D), plains n xs = true → PyData.canLayAll0 (toPys xs) = true
  | n, [], h => rfl
  | n, x :: xs, h => by
    have h1 : plain n x = true ∧ plains n xs = true := by simpa [plains] using h
    simp [toPys, PyData.canLayAll0, canLay_plain n x h1.1, canLays_plain n xs h1.2]
end
mutual
theorem depth_plain : ∀ (n : Nat) (x : D), plain n x = true → (toPy x).depth ≤ n + 1
  | n, .non, h => by simp [toPy, PyData.depth]
  | n, .bl b, h => by simp [toPy, PyData.depth]
  | n, .int b, h => by simp [toPy, PyData.depth]
  | n, .str b, h => by simp [toPy, PyData.depth]
  | 0, .tup xs, h => by simp [plain] at h
  | 0, .lst xs, h => by simp [plain] at h
  | n + 1, .tup xs, h => by simpa [toPy, PyData.depth] using depths_plain n xs (by simpa [plain] using h)
  | n + 1, .lst xs, h => by simpa [toPy, PyData.depth] using depths_plain n xs (by simpa [plain] using h)
  | n, .dk ks ds, h => by cases n <;> simp [plain] at h
  | n, .dt ks ds, h => by cases n <;> simp [plain] at h
  | n, .obj c ks ds, h => by cases n <;> simp [plain] at h
  | n, .tape, h => by cases n <;> simp [plain] at h
theorem depths_plain : ∀ (n : Nat) (xs : List D), plains n xs = true → PyData.depthAll (toPys xs) ≤ n + 1
  | n, [], h => by simp [toPys, PyData.depthAll]
  | n, x :: xs, h => by
    have h1 : plain n x = true ∧ plains n xs = true := by simpa [plains] using h
    have a := depth_plain n x h1.1
    have b := depths_plain n xs h1.2
    simp only [toPys, PyData.depthAll]
    omega
end
theorem shaped_plain {x : D} (h : plain 20 x = true) : SeqAt.shaped (toPy x) = true := by
  have h1 := canLay_plain 20 x h
  have h2 := depth_plain 20 x h
  simp only [SeqAt.shaped, h1, Bool.true_and, decide_eq_true_eq]
  omega
section
variable {K : PySem.W.Frag} {T : Tp} {M : Addr → Prop} {H : Hp} {v : V}
mutual
theorem dp_of : ∀ (n : Nat) (x : D) (v : V), plain n x = true → Rep K T M H v x → Dp K H v (toPy x)
  | _, .non, _, _, r => by cases r; exact .non
  | _, .bl b, _, _, r => by cases r; exact .bl b
  | _, .int b, _, _, r => by cases r; exact .int b
  | _, .str b, _, _, r => by cases r; exact .str b
  | 0, .tup xs, v, h, r => by simp [plain] at h
  | 0, .lst xs, v, h, r => by simp [plain] at h
  | n + 1, .tup xs, v, h, r => by
    have h1 : plains n xs = true := by simpa [plain] using h
    cases r with
    | tup e _ rs => exact .tup (.of e) (dps_of n xs _ h1 rs)
    | wtup e rs => exact .tup e.sq (dps_of n xs _ h1 rs)
  | n + 1, .lst xs, v, h, r => by
    have h1 : plains n xs = true := by simpa [plain] using h
    cases r with
    | lst e _ rs => exact .lst (.of e) (dps_of n xs _ h1 rs)
  | n, .dk ks ds, v, h, r => by cases n <;> simp [plain] at h
  | n, .dt ks ds, v, h, r => by cases n <;> simp [plain] at h
  | n, .obj c ks ds, v, h, r => by cases n <;> simp [plain] at h
  | n, .tape, v, h, r => by cases n <;> simp [plain] at h
theorem dps_of : ∀ (n : Nat) (xs : List D) (vs : List V), plains n xs = true → Reps K T M H vs xs → DpAll K H vs (toPys xs)
  | _, [], _, _, r => by cases r; exact .nil
  | n, x :: xs, _, h, r => by
    have h1 : plain n x = true ∧ plains n xs = true := by simpa [plains] using h
    cases r with
    | cons a b => exact .cons (dp_of n x _ h1.1 a) (dps_of n xs _ h1.2 b)
end
theorem BRep.dp {x : D} (h : plain 20 x = true) (r : BRep K T M H v x) : Dp K H v (toPy x) := by
  rcases r with r | ⟨l, e, _, _, r⟩
  · exact dp_of 20 x v h r
  · subst e
    cases x with
    | lst ds =>
      obtain ⟨vs, h1, rs⟩ := r
      exact .lst (.of h1) (dps_of 19 ds _ (by simpa [plain] using h) rs)
    | dk ks ds => simp [plain] at h
    | dt ks ds => simp [plain] at h
    | obj c ks ds => simp [plain] at h
    | _ => exact r.elim
end
section
variable {K : PySem.W.Frag}
theorem a_eq : OpA K (rEqD K) dEq := by
  intro T M H x y dx dy Q Qd w r1 r2 ⟨h1, h2, q⟩ k
  refine ⟨_, _, r1.dp h1, r2.dp h2, shaped_plain h1, shaped_plain h2, ?_⟩
  rw [eqv_deq 20 20 dx dy h1 h2]
  exact k _ _ _ q (.refl w) (.bl _)
theorem a_ne : OpA K (rNeD K) dNe := by
  intro T M H x y dx dy Q Qd w r1 r2 ⟨h1, h2, q⟩ k
  refine ⟨_, _, r1.dp h1, r2.dp h2, shaped_plain h1, shaped_plain h2, ?_⟩
  rw [eqv_deq 20 20 dx dy h1 h2]
  exact k _ _ _ q (.refl w) (.bl _)
/-! ### is None -/
theorem BRep.isN {K : PySem.W.Frag} {T : Tp} {M : Addr → Prop} {H : Hp} {v : V} {d : D} (r : BRep K T M H v d) : isNon d = decide (v = .non) := by
  rcases r with r | ⟨l, e, _, _, r⟩
  · cases r <;> simp [isNon]
  · subst e
    cases d <;> first | (simp [isNon]; done) | exact r.elim
theorem a_isN : OpA K (fun x y H Q => y = .non ∧ Q (.bl (decide (x = .non))) H) dIsN := by
  intro T M H x y dx dy Q Qd w r1 r2 q k
  unfold dIsN at q
  split at q
  · refine ⟨r2.non, ?_⟩
    rw [r1.isN] at q
    exact k _ _ _ q (.refl w) (.bl _)
  · exact q.elim
theorem a_notN : OpA K (fun x y H Q => y = .non ∧ Q (.bl (!decide (x = .non))) H) dNotN := by
  intro T M H x y dx dy Q Qd w r1 r2 q k
  unfold dNotN at q
  split at q
  · refine ⟨r2.non, ?_⟩
    rw [r1.isN] at q
    exact k _ _ _ q (.refl w) (.bl _)
  · exact q.elim
/-! ### places -/
theorem ixD_eq (n : Nat) (i : Int) : ixD n i = ixN n i := rfl
theorem Reps.at {T : Tp} {M : Addr → Prop} {H : Hp} {vs : List V} {ds : List D} {i : Int} {d : D} (r : Reps K T M H vs ds) (e : ((ixD ds.length i).bind fun j => ds[j]?) = some d) : ∃ v, atI vs i = some v ∧ Rep K T M H v d := by
  unfold atI
  rw [r.length, ← ixD_eq]
  cases q : ixD ds.length i with
  | none => rw [q] at e; cases e
  | some j =>
    rw [q] at e
    exact r.get e
theorem a_ix : OpA K (rIx K) dIx := by
  intro T M H x y dx dy Q Qd w r1 r2 q k
  unfold dIx at q
  split at q
  · obtain ⟨d, e, q⟩ := q
    obtain ⟨a, vs, e1, h, rs⟩ := r1.lst
    obtain ⟨v, e2, r⟩ := rs.at e
    exact .inl ⟨a, vs, _, v, e1, r2.int, .of h, e2, k _ _ _ q (.refl w) r⟩
  · obtain ⟨d, e, q⟩ := q
    obtain ⟨a, vs, e1, h, rs⟩ := r1.tup
    obtain ⟨v, e2, r⟩ := rs.at e
    exact .inr (.inl ⟨a, vs, _, v, e1, r2.int, h, e2, k _ _ _ q (.refl w) r⟩)
  · exact q.elim
/-! ### in -/
theorem BRep.flat {T : Tp} {M : Addr → Prop} {H : Hp} {v : V} {d : D} (r : BRep K T M H v d) (f : flatD d = true) : flatV v = true := by
  rcases r with r | ⟨l, e, _, _, r⟩
  · cases r <;> first | rfl | simp [flatD] at f
  · cases d <;> first | exact r.elim | simp [flatD] at f
theorem eqV_deq {T : Tp} {M : Addr → Prop} {H : Hp} {v u : V} {d e : D} (r : Rep K T M H v d) (s : BRep K T M H u e) (f : flatD d = true) (f' : flatD e = true) : eqV v u = deq d e := by
  rcases s with s | ⟨l, e1, _, _, s⟩
  · cases r <;> first | (simp [flatD] at f; done) | (cases s <;> first | (simp [flatD] at f'; done) | simp [eqV, deq])
  · cases e <;> first | exact s.elim | simp [flatD] at f'
theorem inV_any {T : Tp} {M : Addr → Prop} {H : Hp} {u : V} {e : D} (s : BRep K T M H u e) (f' : flatD e = true) : ∀ {vs : List V} {ds : List D}, Reps K T M H vs ds → ds.all flatD = true → (vs.all flatV = true ∧ inV u vs = ds.any fun y => deq y e)
  | _, _, .nil, _ => ⟨rfl, rfl⟩
  | v :: vs, d :: ds, .cons r t, f => by
    rw [List.all_cons, Bool.and_eq_true] at f
    obtain ⟨h1, h2⟩ := inV_any s f' t f.2
    refine ⟨by rw [List.all_cons, Bool.and_eq_true]; exact ⟨r.b.flat f.1, h1⟩, ?_⟩
    show (eqV v u || inV u vs) = _
    rw [eqV_deq r s f.1 f', h2, List.any_cons]
theorem a_in : OpA K (rIn K false) dIn := by
  intro T M H x y dx dy Q Qd w r1 r2 q k
  unfold dIn at q
  split at q
  · obtain ⟨f1, f2, q⟩ := q
    obtain ⟨a, vs, e1, h, rs⟩ := r2.lst
    obtain ⟨h1, h2⟩ := inV_any r1 f1 rs f2
    refine ⟨a, vs, e1, .inl (.of h), r1.flat f1, h1, ?_⟩
    rw [h2]
    exact k _ _ _ q (.refl w) (.bl _)
  · obtain ⟨f1, f2, q⟩ := q
    obtain ⟨a, vs, e1, h, rs⟩ := r2.tup
    obtain ⟨h1, h2⟩ := inV_any r1 f1 rs f2
    refine ⟨a, vs, e1, .inr h, r1.flat f1, h1, ?_⟩
    rw [h2]
    exact k _ _ _ q (.refl w) (.bl _)
  · exact q.elim
theorem a_notIn : OpA K (rIn K true) dNotIn := by
  intro T M H x y dx dy Q Qd w r1 r2 q k
  unfold dNotIn at q
  split at q
  · obtain ⟨f1, f2, q⟩ := q
    obtain ⟨a, vs, e1, h, rs⟩ := r2.lst
    obtain ⟨h1, h2⟩ := inV_any r1 f1 rs f2
    refine ⟨a, vs, e1, .inl (.of h), r1.flat f1, h1, ?_⟩
    rw [h2]
    exact k _ _ _ q (.refl w) (.bl _)
  · obtain ⟨f1, f2, q⟩ := q
    obtain ⟨a, vs, e1, h, rs⟩ := r2.tup
    obtain ⟨h1, h2⟩ := inV_any r1 f1 rs f2
    refine ⟨a, vs, e1, .inr h, r1.flat f1, h1, ?_⟩
    rw [h2]
    exact k _ _ _ q (.refl w) (.bl _)
  · exact q.elim
end
section
variable {X : Cx}
/-! ### one operand -/
def UnA (K : PySem.W.Frag) (r : V → Hp → VK → Prop) (φ : D → (D → Prop) → Prop) : Prop :=
  ∀ (T : Tp) (M : Addr → Prop) (H : Hp) (x : V) (dx : D) (Q : VK) (Qd : D → Prop), Wd K T M H → BRep K T M H x dx → φ dx Qd → (∀ d v H', Qd d → Grow K T M H H' → Rep K T M H' v d → Q v H') → r x H Q
theorem pp_un {op : UnaryOp} {r : V → Hp → VK → Prop} {φ : D → (D → Prop) → Prop} {f : FE} {a : Expr} {pos : Pos} (ho : UnR X (unaryOp op) r) (hφ : UnA X.K r φ) (ha : PB X a f) : PP X (.UnaryOp op a pos) (wUn φ f) :=
  (pe_un ho ha).imp fun σ H Q ⟨g, M, env, Qd, s, q, k⟩ => ⟨g, M, env, _, s, q, fun d v H1 q1 g1 r1 => hφ g.T M H1 v d Q Qd (s.wd.grow g1) r1 q1 fun d' v' H' a b c => k d' v' H' a (g1.trans b) c⟩
theorem a_neg {K : PySem.W.Frag} : UnA K (rU fun i => .int (-i)) dNeg := by
  intro T M H x dx Q Qd w r q k
  unfold dNeg at q
  split at q
  · exact ⟨_, r.int, k _ _ _ q (.refl w) (.int _)⟩
  · exact q.elim
/-! ### arguments, displays -/
theorem ppa_nil : PPA X [] wNil := pa_nil.imp fun σ H Q ⟨g, M, env, Qd, s, q, k⟩ => k _ _ H q (.refl s.wd) .nil
theorem ppa_cons {e : Expr} {es : List Expr} {f : FE} {fs : FEs} (ha : PP X e f) (hr : PPA X es fs) (hs : starEach (e :: es) X.env = (false, eval e X.env) :: starEach es X.env := by rfl) : PPA X (e :: es) (wCons f fs) :=
  (pa_cons ha hr hs).imp fun σ H Q ⟨g, M, env, Qd, s, q, k⟩ => ⟨g, M, env, _, s, q, fun d v H1 q1 g1 r1 => by
    have s1 := s.grow g1
    exact ⟨g, M, env, _, s1, q1, fun ds vs H2 q2 g2 r2 => k _ _ H2 q2 (g1.trans g2) (.cons (s1.wd.rep g2 r1) r2)⟩⟩
theorem pp_tup {es : List Expr} {fs : FEs} {k : Nat} {pos : Pos} (h : PPA X es fs) : PP X (.Tuple es k pos) (wTup fs) :=
  (pe_tup h).imp fun σ H Q ⟨g, M, env, Qd, s, q, k⟩ => ⟨g, M, env, _, s, q, fun ds vs H1 ⟨l, q1⟩ g1 r1 => by
    have s1 := s.grow g1
    refine ⟨by rw [line_eq, r1.length]; exact l, fun p hp => ?_⟩
    have g2 : Grow X.K g.T M H1 (upd H1 p (.tup vs)) := .new s1.wd hp
    exact k _ _ _ q1 (g1.trans g2) (.tup upd_same (s1.wd.fresh hp) (s1.wd.reps g2 r1))⟩
theorem pf_lst {es : List Expr} {fs : FEs} {pos : Pos} (h : PPA X es fs) : PF X (.List es pos) (wLst fs) :=
  (pe_lst h).imp fun σ H Q ⟨g, M, env, Qd, s, q, k⟩ => ⟨g, M, env, _, s, q, fun ds vs H1 ⟨l, q1⟩ g1 r1 => by
    have s1 := s.grow g1
    refine ⟨by rw [line_eq, r1.length]; exact l, fun p hp => ?_⟩
    have g2 : Grow X.K g.T M H1 (upd H1 p (.lst vs)) := .new s1.wd hp
    refine k _ _ _ q1 (g1.trans g2) ⟨p, rfl, ?_, vs, upd_same, ?_⟩
    · cases e : H p with
      | none => rfl
      | some o =>
        by_cases e2 : p = g.T.t
        · subst e2; exact absurd hp g1.tape.ne
        · rw [g1.keep p o e2 e] at hp; cases hp
    · exact Reps.keep (fun a h z => z.elim id fun z => absurd h (by rw [z, hp]; simp)) (fun a o n h => g2.keep a o (fun e => n (e ▸ s.wd.mT)) h) ds vs r1⟩
end
end Pl
end

section
set_option Elab.async false
set_option linter.all false
set_option maxRecDepth 100000
set_option maxHeartbeats 1000000
set_option autoImplicit false
namespace Pl
open PySem PySem.Spec PyProof.Rows L2
section
variable {X : Cx} {a b c e : Expr} {rest : List Expr} {fa fb fc f : FE} {t u : FT} {pos : Pos}
theorem dBool_of {K : PySem.W.Frag} {T : Tp} {M : Addr → Prop} {H : Hp} {d : D} {v : V} {Q : Bool → Prop} (r : Rep K T M H v d) (q : dBool d Q) : ∃ k, v = .bl k ∧ Q k := by
  cases r <;> first | exact q.elim | exact ⟨_, rfl, q⟩
theorem pp_one {op} (h : PP X a f) : PP X (.BoolOp op [a] pos) f := pe_one h
theorem pp_and (ha : PP X a fa) (hb : PP X (.BoolOp .And (b :: rest) pos) fb) : PP X (.BoolOp .And (a :: b :: rest) pos) (wAndV fa fb) :=
  (pe_and ha hb).imp fun σ H Q ⟨g, M, env, Qd, s, q, k⟩ => ⟨g, M, env, _, s, q, fun d v H1 q1 g1 r1 => by
    obtain ⟨c, e, q2⟩ := dBool_of r1 q1
    refine ⟨c, e, ?_⟩
    split at q2
    · rename_i h
      rw [if_pos h]
      exact ⟨g, M, env, Qd, s.grow g1, q2, fun d v H' a b c => k d v H' a (g1.trans b) c⟩
    · rename_i h
      rw [if_neg h]
      exact k _ _ _ q2 g1 (.bl _)⟩
theorem pp_or (ha : PP X a fa) (hb : PP X (.BoolOp .Or (b :: rest) pos) fb) : PP X (.BoolOp .Or (a :: b :: rest) pos) (wOrV fa fb) :=
  (pe_or ha hb).imp fun σ H Q ⟨g, M, env, Qd, s, q, k⟩ => ⟨g, M, env, _, s, q, fun d v H1 q1 g1 r1 => by
    obtain ⟨c, e, q2⟩ := dBool_of r1 q1
    refine ⟨c, e, ?_⟩
    split at q2
    · rename_i h
      rw [if_pos h]
      exact k _ _ _ q2 g1 (.bl _)
    · rename_i h
      rw [if_neg h]
      exact ⟨g, M, env, Qd, s.grow g1, q2, fun d v H' a b c => k d v H' a (g1.trans b) c⟩⟩
theorem pp_not (ha : PP X a fa) : PP X (.UnaryOp .Not a pos) (wNotV fa) :=
  (pe_not ha).imp fun σ H Q ⟨g, M, env, Qd, s, q, k⟩ => ⟨g, M, env, _, s, q, fun d v H1 q1 g1 r1 => by
    obtain ⟨c, e, q2⟩ := dBool_of r1 q1
    exact ⟨c, e, k _ _ _ q2 g1 (.bl _)⟩⟩
theorem pp_if (hc : PPT X c t) (ha : PP X a fa) (hb : PP X b fb) : PP X (.IfExp c a b pos) (wIf t fa fb) :=
  (pe_ifExp hc ha hb).imp fun σ H Q ⟨g, M, env, Qd, s, q, k⟩ => ⟨g, M, env, _, s, q, fun d H1 q1 g1 => by
    split at q1
    · rename_i h
      rw [if_pos h]
      exact ⟨g, M, env, Qd, s.grow g1, q1, fun d v H' a b c => k d v H' a (g1.trans b) c⟩
    · rename_i h
      rw [if_neg h]
      exact ⟨g, M, env, Qd, s.grow g1, q1, fun d v H' a b c => k d v H' a (g1.trans b) c⟩⟩
theorem tChain_of {K : PySem.W.Frag} {r r' : R2} {φ ψ : Op2} (hφ : OpA K r φ) (hψ : OpA K r' ψ) {fa fb fc : FE} (σ : L2.St) (H : Hp) (Q : VK) (h : tP K (wChain φ ψ fa fb fc) σ H Q) : tChain r r' (tB K fa) (tB K fb) (tB K fc) σ H Q := by
  obtain ⟨g, M, env, Qd, s, q, k⟩ := h
  refine ⟨g, M, env, _, s, q, fun dx x H1 q1 g1 r1 => ?_⟩
  have s1 := s.grow g1
  refine ⟨g, M, env, _, s1, q1, fun dy y H2 q2 g2 r2 => ?_⟩
  have s2 := s1.grow g2
  have r1' := s1.wd.brep g2 r1
  refine hφ g.T M H2 x y dx dy _ _ s2.wd r1' r2 q2 fun d v H3 q3 g3 r3 => ?_
  obtain ⟨c, e, q4⟩ := dBool_of r3 q3
  refine ⟨c, e, ?_⟩
  have s3 := s2.grow g3
  split at q4
  · rename_i h
    rw [if_pos h]
    refine ⟨g, M, env, _, s3, q4, fun dz z H4 q5 g4 r4 => ?_⟩
    have s4 := s3.grow g4
    exact hψ g.T M H4 y z dy dz Q Qd s4.wd (s3.wd.brep g4 (s2.wd.brep g3 r2)) r4 q5 fun d v H' a b c => k d v H' a ((((g1.trans g2).trans g3).trans g4).trans b) c
  · rename_i h
    rw [if_neg h]
    exact k _ _ _ q4 ((g1.trans g2).trans g3) (.bl _)
theorem pp_chain {op op' : CmpOp} {r r' : R2} {φ ψ : Op2} (ho : OpR X (compareOp op) r) (ho' : OpR X (compareOp op') r') (hφ : OpA X.K r φ) (hψ : OpA X.K r' ψ) (ha : PB X a fa) (hb : PB X b fb) (hc : PB X c fc)
    (hm : lastMarks [op, op'] [b, c] = false := by with_unfolding_all rfl) : PP X (.Compare a [op, op'] [b, c] pos) (wChain φ ψ fa fb fc) :=
  (pe_chain ho ho' ha hb hc hm).imp fun σ H Q h => tChain_of hφ hψ σ H Q h
/-! ### tests -/
theorem tTest_of {K : PySem.W.Frag} {tt : TE} {f : FE} (h : ∀ σ H Q, tP K f σ H Q → tt σ H Q) (σ : L2.St) (H : Hp) (Q : Bool → Hp → Prop) (hq : tPT K (wTest f) σ H Q) : tTest tt σ H Q := by
  obtain ⟨g, M, env, Qd, s, q, k⟩ := hq
  refine h σ H _ ⟨g, M, env, _, s, q, fun d v H1 q1 g1 r1 => ?_⟩
  obtain ⟨c, e, q2⟩ := dBool_of r1 q1
  exact ⟨c, e, k _ _ q2 g1⟩
theorem ppt_cmp {op : CmpOp} {r : R2} {φ : Op2} (ho : OpR X (compareOp op) r) (hφ : OpA X.K r φ) (ha : PB X a fa) (hb : PB X b fb) (hm : behindInMarks op b = false) : PPT X (.Compare a [op] [b] pos) (wTest (wBin φ fa fb)) :=
  (pt_cmpR ho ha hb hm).imp fun σ H Q h => tTest_of (fun σ H Q h => tOp_of hφ σ H Q h) σ H Q h
theorem ppt_chain {op op' : CmpOp} {r r' : R2} {φ ψ : Op2} (ho : OpR X (compareOp op) r) (ho' : OpR X (compareOp op') r') (hφ : OpA X.K r φ) (hψ : OpA X.K r' ψ) (ha : PB X a fa) (hb : PB X b fb) (hc : PB X c fc)
    (hm : lastMarks [op, op'] [b, c] = false := by with_unfolding_all rfl) : PPT X (.Compare a [op, op'] [b, c] pos) (wTest (wChain φ ψ fa fb fc)) :=
  (pt_chain ho ho' ha hb hc hm).imp fun σ H Q h => tTest_of (fun σ H Q h => tChain_of hφ hψ σ H Q h) σ H Q h
/-- the truth of a bool (a call's answer, a name) -/
theorem ppt_truth (ha : PP X a fa) (he : ∀ whole, isTrue a X.env whole = (do let v ← whole; standAt a.pos; holding [v] (truthy v)) := by intro _; rfl) : PPT X a (wTest fa) :=
  (pt_truth ha he).imp fun σ H Q ⟨g, M, env, Qd, s, q, k⟩ => ⟨g, M, env, _, s, q, fun d v H1 q1 g1 r1 => by
    obtain ⟨c, e, q2⟩ := dBool_of r1 q1
    subst e
    exact ⟨c, rfl, k _ _ q2 g1⟩⟩
theorem tAnd_of {K : PySem.W.Frag} (σ : L2.St) (H : Hp) (Q : Bool → Hp → Prop) (h : tPT K (wAnd t u) σ H Q) : tAnd (tPT K t) (tPT K u) σ H Q := by
  obtain ⟨g, M, env, Qd, s, q, k⟩ := h
  refine ⟨g, M, env, _, s, q, fun d H1 q1 g1 => ?_⟩
  split at q1
  · rename_i h
    rw [if_pos h]
    exact ⟨g, M, env, Qd, s.grow g1, q1, fun d H' a b => k d H' a (g1.trans b)⟩
  · rename_i h
    rw [if_neg h]
    exact k _ _ q1 g1
theorem tOr_of {K : PySem.W.Frag} (σ : L2.St) (H : Hp) (Q : Bool → Hp → Prop) (h : tPT K (wOr t u) σ H Q) : tOr (tPT K t) (tPT K u) σ H Q := by
  obtain ⟨g, M, env, Qd, s, q, k⟩ := h
  refine ⟨g, M, env, _, s, q, fun d H1 q1 g1 => ?_⟩
  split at q1
  · rename_i h
    rw [if_pos h]
    exact k _ _ q1 g1
  · rename_i h
    rw [if_neg h]
    exact ⟨g, M, env, Qd, s.grow g1, q1, fun d H' a b => k d H' a (g1.trans b)⟩
theorem _root_.L2.PW.imp {e : Expr} {t t' : TT} (h : PW X e t) (w : ∀ σ H Q, t' σ H Q → t σ H Q) : PW X e t' := ⟨fun wh pins s σ H Q I q => h.run wh pins s σ H Q I (w _ _ _ q)⟩
abbrev PPW (X : Cx) (e : Expr) (f : FT) : Prop := PW X e (tPT X.K f)
theorem ppw_and1 (ha : PPT X a t) : PPW X (.BoolOp .And [a] pos) t := pw_and1 ha
theorem ppw_or1 (ha : PPT X a t) : PPW X (.BoolOp .Or [a] pos) t := pw_or1 ha
theorem ppw_and (ha : PPT X a t) (hb : PPW X (.BoolOp .And (b :: rest) pos) u) : PPW X (.BoolOp .And (a :: b :: rest) pos) (wAnd t u) := (pw_and ha hb).imp tAnd_of
theorem ppw_or (ha : PPT X a t) (hb : PPW X (.BoolOp .Or (b :: rest) pos) u) : PPW X (.BoolOp .Or (a :: b :: rest) pos) (wOr t u) := (pw_or ha hb).imp tOr_of
theorem ppt_not (ha : PPT X a t) : PPT X (.UnaryOp .Not a pos) (wNot t) :=
  (pt_not ha).imp fun σ H Q ⟨g, M, env, Qd, s, q, k⟩ => ⟨g, M, env, _, s, q, fun d H1 q1 g1 => k _ _ q1 g1⟩
end

/-! ### calls -/
/-- what a def of data promises -/
def spP (K : PySem.W.Frag) (φ : Fn) : Sp := fun vs H Q _ => ∃ T M ds Qd, Wd K T M H ∧ Reps K T M H vs ds ∧ φ ds Qd ∧ ∀ d v H', Qd d → Grow K T M H H' → Rep K T M H' v d → Q v H'
/-- a def of the module that may be called -/
structure Df (X : Cx) (x : Str) (φ : Fn) : Prop where
  ex : ∃ (k : Nat) (f : Addr) (fd : FuncData) (ps : List Str), FnOk X.prog X.w X.K X.mg X.base CX0 k f fd ps (spP X.K φ) ∧ Room k X.A ∧ X.mg x = some (.ref f) ∧ PySem.W.keepIn X.K (.ref f) = true ∧ Binds X.K fd ps []
inductive BReps (K : PySem.W.Frag) (T : Tp) (M : Addr → Prop) (H : Hp) : List V → List D → Prop
  | nil : BReps K T M H [] []
  | cons {v : V} {vs : List V} {d : D} {ds : List D} : BRep K T M H v d → BReps K T M H vs ds → BReps K T M H (v :: vs) (d :: ds)
def tBA (K : PySem.W.Frag) (f : FEs) : TA := fun σ H Q => ∃ g M env Qd, SR K g M σ H env ∧ f env Qd ∧ ∀ d v H', Qd d → Grow K g.T M H H' → BReps K g.T M H' v d → Q v H'
abbrev PBA (X : Cx) (es : List Expr) (f : FEs) : Prop := PA X es (tBA X.K f)
section
variable {K : PySem.W.Frag} {T : Tp} {M : Addr → Prop} {H H1 H' : Hp} {v : V} {d : D}
theorem BReps.inv_nil {vs : List V} (r : BReps K T M H vs []) : vs = [] := by cases r; rfl
theorem BReps.inv_cons {vs : List V} {d : D} {ds : List D} (r : BReps K T M H vs (d :: ds)) : ∃ v us, vs = v :: us ∧ BRep K T M H v d ∧ BReps K T M H us ds := by
  cases r with
  | cons a b => exact ⟨_, _, rfl, a, b⟩
theorem BReps.one {vs : List V} {d : D} (r : BReps K T M H vs [d]) : ∃ v, vs = [v] ∧ BRep K T M H v d := by
  obtain ⟨v, us, e, r1, r2⟩ := r.inv_cons
  rw [r2.inv_nil] at e
  exact ⟨v, e, r1⟩
theorem BReps.two {vs : List V} {d d' : D} (r : BReps K T M H vs [d, d']) : ∃ v v', vs = [v, v'] ∧ BRep K T M H v d ∧ BRep K T M H v' d' := by
  obtain ⟨v, us, e, r1, r2⟩ := r.inv_cons
  obtain ⟨v', e', r3⟩ := r2.one
  rw [e'] at e
  exact ⟨v, v', e, r1, r3⟩
/-- a built-in of data -/
def CallA (K : PySem.W.Frag) (r : List V → Hp → VK → Prop) (φ : Fn) : Prop :=
  ∀ (T : Tp) (M : Addr → Prop) (H : Hp) (xs : List V) (ds : List D) (Q : VK) (Qd : D → Prop), Wd K T M H → BReps K T M H xs ds → φ ds Qd → (∀ d v H', Qd d → Grow K T M H H' → Rep K T M H' v d → Q v H') → r xs H Q
/-- .. that makes a list -/
def CallF (K : PySem.W.Frag) (r : List V → Hp → VK → Prop) (φ : Fn) : Prop :=
  ∀ (T : Tp) (M : Addr → Prop) (H : Hp) (xs : List V) (ds : List D) (Q : VK) (Qd : D → Prop), Wd K T M H → BReps K T M H xs ds → φ ds Qd → (∀ d v H', Qd d → Grow K T M H H' → FRep K T M H H' v d → Q v H') → r xs H Q
theorem FRep.back (w : Wd K T M H) (g : Grow K T M H H1) (h : FRep K T M H1 H' v d) : FRep K T M H H' v d := by
  obtain ⟨l, e, n, r⟩ := h
  refine ⟨l, e, ?_, r⟩
  cases q : H l with
  | none => rfl
  | some o =>
    by_cases e2 : l = T.t
    · subst e2; exact absurd n g.tape.ne
    · rw [g.keep l o e2 q] at n; cases n
/-- a new list at p -/
theorem FRep.lst {p : Addr} {vs : List V} {ds : List D} (w : Wd K T M H) (hp : H p = none) (r : Reps K T M H vs ds) : FRep K T M H (upd H p (.lst vs)) (.ref p) (.lst ds) := by
  have g2 : Grow K T M H (upd H p (.lst vs)) := .new w hp
  exact ⟨p, rfl, hp, vs, upd_same, Reps.keep (fun a h z => z.elim id fun z => absurd h (by rw [z, hp]; simp)) (fun a o n h => g2.keep a o (fun e => n (e ▸ w.mT)) h) ds vs r⟩
end
section
variable {X : Cx} {e : Expr} {es : List Expr} {f : FE} {fs : FEs} {p pos : Pos} {x : Str} {φ : Fn} {id T : String} {r : List V → Hp → VK → Prop}
theorem pp_call (F : Df X x φ) (hg : Gl X x) (ha : PPA X (e :: es) fs)
    (hdb : (x == ("__debug__" : Str)) = false := by decide) (he : starEach (e :: es) X.env = (false, eval e X.env) :: starEach es X.env := by rfl) (hpl : (backTo pos (starEach es X.env)).any (·.1) = false := by rfl) :
    PP X (.Call (.Name x p) (e :: es) [] pos) (wCall φ fs) := by
  obtain ⟨k, f, fd, ps, F, hr, hm, hk, hb⟩ := F.ex
  refine (pe_call F hr hg hm hk hb .nil pass0 ha hdb he hpl).imp fun σ H Q ⟨g, M, env, Qd, s, q, k⟩ => ⟨g, M, env, _, s, q, fun ds vs H1 q1 g1 r1 => ?_⟩
  exact ⟨g.T, M, ds, Qd, (s.grow g1).wd, by rw [List.append_nil]; exact r1, q1, fun d v H' a b c => k d v H' a (g1.trans b) c⟩
theorem pba_nil : PBA X [] wNil := pa_nil.imp fun σ H Q ⟨g, M, env, Qd, s, q, k⟩ => k _ _ H q (.refl s.wd) .nil
theorem Wd.breps {K : PySem.W.Frag} {T : Tp} {M : Addr → Prop} {H H' : Hp} (w : Wd K T M H) (g : Grow K T M H H') : ∀ {vs : List V} {ds : List D}, BReps K T M H vs ds → BReps K T M H' vs ds
  | _, _, .nil => .nil
  | _, _, .cons a b => .cons (w.brep g a) (w.breps g b)
theorem pba_cons (ha : PB X e f) (hr : PBA X es fs) (hs : starEach (e :: es) X.env = (false, eval e X.env) :: starEach es X.env := by rfl) : PBA X (e :: es) (wCons f fs) :=
  (pa_cons ha hr hs).imp fun σ H Q ⟨g, M, env, Qd, s, q, k⟩ => ⟨g, M, env, _, s, q, fun d v H1 q1 g1 r1 => by
    have s1 := s.grow g1
    exact ⟨g, M, env, _, s1, q1, fun ds vs H2 q2 g2 r2 => k _ _ H2 q2 (g1.trans g2) (.cons (s1.wd.brep g2 r1) r2)⟩⟩
theorem tCB_of {K : PySem.W.Frag} (hφ : CallA K r φ) (σ : L2.St) (H : Hp) (Q : VK) (h : tP K (wCall φ fs) σ H Q) : tCB r (tBA K fs) σ H Q := by
  obtain ⟨g, M, env, Qd, s, q, k⟩ := h
  exact ⟨g, M, env, _, s, q, fun ds vs H1 q1 g1 r1 => hφ g.T M H1 vs ds Q Qd (s.grow g1).wd r1 q1 fun d v H' a b c => k d v H' a (g1.trans b) c⟩
theorem tCF_of {K : PySem.W.Frag} (hφ : CallF K r φ) (σ : L2.St) (H : Hp) (Q : VK) (h : tF K (wCall φ fs) σ H Q) : tCB r (tBA K fs) σ H Q := by
  obtain ⟨g, M, env, Qd, s, q, k⟩ := h
  exact ⟨g, M, env, _, s, q, fun ds vs H1 q1 g1 r1 => hφ g.T M H1 vs ds Q Qd (s.grow g1).wd r1 q1 fun d v H' a b c => k d v H' a (g1.trans b) (c.back s.wd g1)⟩
theorem pp_callB (hc : CallR X (.builtin id) r) (hφ : CallA X.K r φ) (hg : Gl X x) (hm : X.mg x = none) (hv : bootBuiltins x = some (.builtin id)) (ha : PBA X (e :: es) fs) (hn : x ≠ "__name__" := by decide) (hdb : (x == ("__debug__" : Str)) = false := by decide)
    (he : starEach (e :: es) X.env = (false, eval e X.env) :: starEach es X.env := by rfl) (hpl : (backTo pos (starEach es X.env)).any (·.1) = false := by rfl) : PP X (.Call (.Name x p) (e :: es) [] pos) (wCall φ fs) :=
  (pe_callB hc hg hm hv ha hn hdb he hpl).imp fun σ H Q h => tCB_of hφ σ H Q h
theorem pp_callTy (hc : CallR X (.type T) r) (hφ : CallA X.K r φ) (hg : Gl X x) (hm : X.mg x = none) (hv : bootBuiltins x = some (.type T)) (ha : PBA X (e :: es) fs) (hn : x ≠ "__name__" := by decide) (hdb : (x == ("__debug__" : Str)) = false := by decide)
    (he : starEach (e :: es) X.env = (false, eval e X.env) :: starEach es X.env := by rfl) (hpl : (backTo pos (starEach es X.env)).any (·.1) = false := by rfl) : PP X (.Call (.Name x p) (e :: es) [] pos) (wCall φ fs) :=
  (pe_callTy hc hg hm hv ha hn hdb he hpl).imp fun σ H Q h => tCB_of hφ σ H Q h
theorem pf_callTy (hc : CallR X (.type T) r) (hφ : CallF X.K r φ) (hg : Gl X x) (hm : X.mg x = none) (hv : bootBuiltins x = some (.type T)) (ha : PBA X (e :: es) fs) (hn : x ≠ "__name__" := by decide) (hdb : (x == ("__debug__" : Str)) = false := by decide)
    (he : starEach (e :: es) X.env = (false, eval e X.env) :: starEach es X.env := by rfl) (hpl : (backTo pos (starEach es X.env)).any (·.1) = false := by rfl) : PF X (.Call (.Name x p) (e :: es) [] pos) (wCall φ fs) :=
  (pe_callTy hc hg hm hv ha hn hdb he hpl).imp fun σ H Q h => tCF_of hφ σ H Q h
theorem pf_callB (hc : CallR X (.builtin id) r) (hφ : CallF X.K r φ) (hg : Gl X x) (hm : X.mg x = none) (hv : bootBuiltins x = some (.builtin id)) (ha : PBA X (e :: es) fs) (hn : x ≠ "__name__" := by decide) (hdb : (x == ("__debug__" : Str)) = false := by decide)
    (he : starEach (e :: es) X.env = (false, eval e X.env) :: starEach es X.env := by rfl) (hpl : (backTo pos (starEach es X.env)).any (·.1) = false := by rfl) : PF X (.Call (.Name x p) (e :: es) [] pos) (wCall φ fs) :=
  (pe_callB hc hg hm hv ha hn hdb he hpl).imp fun σ H Q h => tCF_of hφ σ H Q h
theorem pp_callG (hc : CallR X (.builtin id) r) (hφ : CallA X.K r φ) (hg : Gl X x) (hm : X.mg x = some (.builtin id)) (ha : PBA X (e :: es) fs) (hdb : (x == ("__debug__" : Str)) = false := by decide)
    (he : starEach (e :: es) X.env = (false, eval e X.env) :: starEach es X.env := by rfl) (hpl : (backTo pos (starEach es X.env)).any (·.1) = false := by rfl) : PP X (.Call (.Name x p) (e :: es) [] pos) (wCall φ fs) :=
  (pe_callBfun hc hg hm ha hdb he hpl).imp fun σ H Q h => tCB_of hφ σ H Q h
end
/-! ### the built-ins -/
section
variable {X : Cx} {K : PySem.W.Frag}
theorem c_len : CallA K (fun xs H Q => ∃ x n, xs = [x] ∧ LenV K x H n ∧ Q (.int n) H) bLen := by
  intro T M H xs ds Q Qd w rs q k
  unfold bLen at q
  split at q
  · obtain ⟨v, rfl, r⟩ := rs.one
    obtain ⟨a, vs, rfl, h, r2⟩ := r.lst
    exact ⟨_, vs.length, rfl, .inl ⟨vs, .of h, rfl⟩, by rw [r2.length]; exact k _ _ _ q (.refl w) (.int _)⟩
  · obtain ⟨v, rfl, r⟩ := rs.one
    obtain ⟨a, vs, rfl, h, r2⟩ := r.tup
    exact ⟨_, vs.length, rfl, .inr ⟨vs, h, rfl⟩, by rw [r2.length]; exact k _ _ _ q (.refl w) (.int _)⟩
  · obtain ⟨v, rfl, r⟩ := rs.one
    exact ⟨_, _, rfl, by rw [r.str]; exact ⟨by rw [line_eq]; exact q.1, rfl⟩, k _ _ _ q.2 (.refl w) (.int _)⟩
  · exact q.elim
theorem c_abs : CallA K (fun xs H Q => ∃ i, xs = [.int i] ∧ Q (.int (if i < 0 then -i else i)) H) bAbs := by
  intro T M H xs ds Q Qd w rs q k
  unfold bAbs at q
  split at q
  · rename_i i
    obtain ⟨v, rfl, r⟩ := rs.one
    refine ⟨i, by rw [r.int], ?_⟩
    have e : (if i < 0 then -i else i) = (i.natAbs : Int) := by split <;> omega
    rw [e]
    exact k _ _ _ q (.refl w) (.int _)
  · exact q.elim
theorem c_max2 : CallA K (fun xs H Q => ∃ i j, xs = [.int i, .int j] ∧ Q (.int (if j > i then j else i)) H) bMax2 := by
  intro T M H xs ds Q Qd w rs q k
  unfold bMax2 at q
  split at q
  · rename_i i j
    obtain ⟨v, v', rfl, r, r'⟩ := rs.two
    refine ⟨i, j, by rw [r.int, r'.int], ?_⟩
    have e : (if j > i then j else i) = max i j := by split <;> omega
    rw [e]
    exact k _ _ _ q (.refl w) (.int _)
  · exact q.elim
theorem c_min2 : CallA K (fun xs H Q => ∃ i j, xs = [.int i, .int j] ∧ Q (.int (if j < i then j else i)) H) bMin2 := by
  intro T M H xs ds Q Qd w rs q k
  unfold bMin2 at q
  split at q
  · rename_i i j
    obtain ⟨v, v', rfl, r, r'⟩ := rs.two
    refine ⟨i, j, by rw [r.int, r'.int], ?_⟩
    have e : (if j < i then j else i) = min i j := by split <;> omega
    rw [e]
    exact k _ _ _ q (.refl w) (.int _)
  · exact q.elim
theorem c_int : CallA K (fun xs H Q => (∃ i, xs = [.int i] ∧ Q (.int i) H) ∨ ∃ k, xs = [.bl k] ∧ Q (.int (if k then 1 else 0)) H) bInt := by
  intro T M H xs ds Q Qd w rs q k
  unfold bInt at q
  split at q
  · obtain ⟨v, rfl, r⟩ := rs.one
    exact .inl ⟨_, by rw [r.int], k _ _ _ q (.refl w) (.int _)⟩
  · obtain ⟨v, rfl, r⟩ := rs.one
    exact .inr ⟨_, by rw [r.bl], k _ _ _ q (.refl w) (.int _)⟩
  · exact q.elim
theorem c_gcd : CallA K rGcd bGcd := by
  intro T M H xs ds Q Qd w rs q k
  unfold bGcd at q
  split at q
  · obtain ⟨v, v', rfl, r, r'⟩ := rs.two
    exact ⟨_, _, by rw [r.int, r'.int], k _ _ _ q (.refl w) (.int _)⟩
  · exact q.elim
theorem f_list : CallF K (fun xs H Q => ∃ p ys, xs = [.ref p] ∧ (SqL K H p ys ∨ SqT K H p ys) ∧ ∀ l, H l = none → Q (.ref l) (upd H l (.lst ys))) bList := by
  intro T M H xs ds Q Qd w rs q k
  unfold bList at q
  split at q
  · obtain ⟨v, rfl, r⟩ := rs.one
    obtain ⟨a, vs, rfl, h, r2⟩ := r.lst
    exact ⟨a, vs, rfl, .inl (.of h), fun l hl => k _ _ _ q (.new w hl) (.lst w hl r2)⟩
  · obtain ⟨v, rfl, r⟩ := rs.one
    obtain ⟨a, vs, rfl, h, r2⟩ := r.tup
    exact ⟨a, vs, rfl, .inr h, fun l hl => k _ _ _ q (.new w hl) (.lst w hl r2)⟩
  · exact q.elim
theorem c_tuple : CallA K (fun xs H Q => ∃ p ys, xs = [.ref p] ∧ ((SqL K H p ys ∧ ∀ l, H l = none → Q (.ref l) (upd H l (.tup ys))) ∨ (SqT K H p ys ∧ Q (.ref p) H))) bTuple := by
  intro T M H xs ds Q Qd w rs q k
  unfold bTuple at q
  split at q
  · obtain ⟨v, rfl, r⟩ := rs.one
    obtain ⟨a, vs, rfl, h, r2⟩ := r.lst
    refine ⟨a, vs, rfl, .inl ⟨.of h, fun l hl => ?_⟩⟩
    have g : Grow K T M H (upd H l (.tup vs)) := .new w hl
    exact k _ _ _ q g (.tup upd_same (w.fresh hl) (w.reps g r2))
  · obtain ⟨v, rfl, r⟩ := rs.one
    obtain ⟨a, vs, rfl, h, r2⟩ := r.tup
    rcases r with r | ⟨_, _, _, _, z⟩
    · exact ⟨a, vs, rfl, .inr ⟨h, k _ _ _ q (.refl w) r⟩⟩
    · exact z.elim
  · exact q.elim
theorem ints_reps {T : Tp} {M : Addr → Prop} {H : Hp} : ∀ {ds : List D} {vs : List V} {ns : List Int}, Reps K T M H vs ds → intsD ds = some ns → vs = ns.map V.int
  | [], _, ns, r, e => by cases r; cases e; rfl
  | d :: ds, _, ns, r, e => by
    cases r with
    | cons r1 r2 =>
      cases r1 <;> simp [intsD] at e
      obtain ⟨ms, e1, rfl⟩ := e
      rw [ints_reps r2 e1]; rfl
theorem bools_reps {T : Tp} {M : Addr → Prop} {H : Hp} : ∀ {ds : List D} {vs : List V} {ns : List Bool}, Reps K T M H vs ds → boolsD ds = some ns → vs = ns.map V.bl
  | [], _, ns, r, e => by cases r; cases e; rfl
  | d :: ds, _, ns, r, e => by
    cases r with
    | cons r1 r2 =>
      cases r1 <;> simp [boolsD] at e
      obtain ⟨ms, e1, rfl⟩ := e
      rw [bools_reps r2 e1]; rfl
theorem c_sum : CallA K (rSum K) bSum := by
  intro T M H xs ds Q Qd w rs q k
  unfold bSum at q
  split at q
  · obtain ⟨ns, e, q⟩ := q
    obtain ⟨v, rfl, r⟩ := rs.one
    obtain ⟨a, vs, rfl, h, r2⟩ := r.lst
    rw [ints_reps r2 e] at h
    exact ⟨a, ns, rfl, .of h, k _ _ _ q (.refl w) (.int _)⟩
  · exact q.elim
theorem c_all : CallA K (rAll K) bAll := by
  intro T M H xs ds Q Qd w rs q k
  unfold bAll at q
  split at q
  · obtain ⟨ns, e, q⟩ := q
    obtain ⟨v, rfl, r⟩ := rs.one
    obtain ⟨a, vs, rfl, h, r2⟩ := r.lst
    rw [bools_reps r2 e] at h
    exact ⟨a, ns, rfl, .of h, k _ _ _ q (.refl w) (.bl _)⟩
  · exact q.elim
theorem c_any : CallA K (rAny K) bAny := by
  intro T M H xs ds Q Qd w rs q k
  unfold bAny at q
  split at q
  · obtain ⟨ns, e, q⟩ := q
    obtain ⟨v, rfl, r⟩ := rs.one
    obtain ⟨a, vs, rfl, h, r2⟩ := r.lst
    rw [bools_reps r2 e] at h
    exact ⟨a, ns, rfl, .of h, k _ _ _ q (.refl w) (.bl _)⟩
  · exact q.elim
end
end Pl
end

section
set_option Elab.async false
set_option linter.all false
set_option maxRecDepth 100000
set_option maxHeartbeats 1000000
set_option autoImplicit false
namespace Pl
open PySem PySem.Spec PyProof.Rows L2
section
variable {X : Cx} {K : PySem.W.Frag}
/-- a module's constant -/
theorem pp_glob {x : Str} {v : V} {u : Value} {d : D} {pos : Pos} (hg : Gl X x) (hm : X.mg x = some u) (rv : RelV v u) (r : ∀ T M H, Rep X.K T M H v d) (hd : (x == ("__debug__" : Str)) = false := by decide) : PP X (.Name x pos) (wC d) :=
  (pe_glob hg hm rv hd).imp fun σ H Q ⟨g, M, env, Qd, s, q, k⟩ => k d v H q (.refl s.wd) (r _ _ _)
/-! ### slices -/
theorem sIxD_eq (n d : Nat) (o : Option Int) : sIxD n d o = HT.sIx n d o := by cases o <;> rfl
def tO (K : PySem.W.Frag) (f : FO) : TO := fun σ H Q => ∃ g M env Qd, SR K g M σ H env ∧ f env Qd ∧ ∀ o H', Qd o → Grow K g.T M H H' → Q o H'
abbrev PPO (X : Cx) (e : Option Expr) (f : FO) : Prop := PO X e (tO X.K f)
theorem _root_.L2.PO.imp {e : Option Expr} {t t' : TO} (h : PO X e t) (w : ∀ σ H Q, t' σ H Q → t σ H Q) : PO X e t' := ⟨fun pins s σ H Q I q => h.run pins s σ H Q I (w _ _ _ q)⟩
theorem ppo_none : PPO X none wNoP := po_none.imp fun σ H Q ⟨g, M, env, Qd, s, q, k⟩ => k _ _ q (.refl s.wd)
theorem ppo_some {e : Expr} {f : FE} (h : PP X e f) : PPO X (some e) (wP f) := (po_some h).imp fun σ H Q ⟨g, M, env, Qd, s, q, k⟩ => ⟨g, M, env, _, s, q, fun d v H1 q1 g1 r1 => by
  split at q1
  · exact ⟨_, r1.b.int, k _ _ q1 g1⟩
  · exact q1.elim⟩
theorem Reps.cut {T : Tp} {M : Addr → Prop} {H : Hp} {vs : List V} {ds : List D} (r : Reps K T M H vs ds) (lo hi : Option Int) : Reps K T M H (cutV vs lo hi) (cutD ds lo hi) := by
  unfold cutV cutD
  rw [sIxD_eq, sIxD_eq, r.length]
  exact (r.drop _).take _
theorem pf_slice {e : Expr} {lo hi : Option Expr} {f : FE} {fl fh : FO} {pos p2 : Pos} (he : PB X e f) (hl : PPO X lo fl) (hh : PPO X hi fh)
    : PF X (.Subscript e (.Slice lo hi none p2) pos) (wSlice f fl fh) :=
  PE.imp (pe_slice sl_list he hl hh) fun σ H Q ⟨g, M, env, Qd, s, q, k⟩ => ⟨g, M, env, _, s, q, fun d v H1 q1 g1 r1 => by
    have s1 := s.grow g1
    refine ⟨g, M, env, _, s1, q1, fun o H2 q2 g2 => ?_⟩
    have s2 := s1.grow g2
    refine ⟨g, M, env, _, s2, q2, fun o' H3 q3 g3 => ?_⟩
    have s3 := s2.grow g3
    split at q3
    · have r3 := s2.wd.brep g3 (s1.wd.brep g2 r1)
      obtain ⟨a, vs, e1, h, rs⟩ := r3.lst
      refine ⟨a, vs, e1, .of h, fun p hp => ?_⟩
      exact k _ _ _ q3 (((g1.trans g2).trans g3).trans (.new s3.wd hp)) ((FRep.lst s3.wd hp (rs.cut _ _)).back s.wd ((g1.trans g2).trans g3))
    · exact q3.elim⟩
/-! ### fields -/
theorem fLook_ok {T : Tp} {M : Addr → Prop} {H : Hp} {x : Str} : ∀ {ns : List Str} {vs : List V} {ds : List D} {d : D}, Reps K T M H vs ds → fLook x ns ds = some d → ∃ v, (ns.zip vs).lookup x = some v ∧ Rep K T M H v d
  | [], _, _, _, _, e => by cases e
  | n :: ns, _, [], _, _, e => by cases e
  | n :: ns, _, d :: ds, d', r, e => by
    cases r with
    | @cons v vs _ _ r1 r2 =>
      unfold fLook at e
      by_cases h : x = n
      · rw [if_pos h] at e
        cases e
        refine ⟨v, ?_, r1⟩
        rw [List.zip_cons_cons, List.lookup_cons, beq_iff_eq.mpr h]
      · rw [if_neg h] at e
        obtain ⟨v', e1, r'⟩ := fLook_ok r2 e
        refine ⟨v', ?_, r'⟩
        rw [List.zip_cons_cons, List.lookup_cons, beq_eq_false_iff_ne.mpr h]
        exact e1
theorem BRep.obj {T : Tp} {M : Addr → Prop} {H : Hp} {v : V} {c : Str} {ns : List Str} {ds : List D} (r : BRep K T M H v (.obj c ns ds)) : ∃ a dx vs, v = .ref a ∧ H a = some (.ins (He.ga K c) dx (ns.zip vs)) ∧ ns.length = vs.length ∧ Reps K T M H vs ds := by
  rcases r with r | ⟨l, e, _, _, C, dx, vs, h, hc, hl, r, _⟩
  · cases r with
    | obj h1 hc h2 hl h3 => subst hc; exact ⟨_, _, _, rfl, h1, hl, h3⟩
  · subst hc; exact ⟨_, _, _, e, h, hl, r⟩
theorem pp_fld {e : Expr} {f : FE} {c x : Str} {pos : Pos} (he : PB X e f) (cl : Cls X.K (He.ga X.K c)) (na : NoAttr X.K (He.ga X.K c) x) (hb : attributeBase e x X.env (eval e X.env) = eval e X.env := by rfl) : PP X (.Attribute e x pos) (wFld f c x) :=
  PE.imp (pe_fld he hb) fun σ H Q ⟨g, M, env, Qd, s, q, k⟩ => ⟨g, M, env, _, s, q, fun d v H1 q1 g1 r1 => by
    unfold dFld at q1
    split at q1
    · obtain ⟨e1, d', e2, q2⟩ := q1
      subst e1
      obtain ⟨a, dx, vs, ev, h, hl, rs⟩ := r1.obj
      obtain ⟨u, lu, ru⟩ := fLook_ok rs e2
      exact ⟨a, _, dx, _, u, ev, h, cl, na, lu, k _ _ _ q2 g1 ru⟩
    · exact q1.elim⟩
/-! ### stores -/
section
variable {g : Gh} {M M' : Addr → Prop} {σ : L2.St} {H H' : Hp} {env : AEnv} {i : Nat} {v : V} {d : D}
theorem getD_set_self {α : Type} {l : List α} {i : Nat} {a d : α} (h : i < l.length) : (l.set i a).getD i d = a := by
  rw [List.getD_eq_getElem?_getD, List.getElem?_set_self h]; rfl
theorem getD_set_ne {α : Type} {l : List α} {i j : Nat} {a d : α} (h : i ≠ j) : (l.set i a).getD j d = l.getD j d := by
  rw [List.getD_eq_getElem?_getD, List.getD_eq_getElem?_getD, List.getElem?_set_ne h]
theorem SR.set {s : Slot} {o : Option V} (r : SR K g M σ H env) (h : SlotOk K g M H o s) (hd : ∀ d, s ≠ .own d) : SR K g M (σ.set i o) H (env.set i s) where
  wd := r.wd
  m0 := r.m0
  mh := r.mh
  gr := r.gr
  len := by simp [r.len]
  sl := fun j x e => by
    by_cases ij : i = j
    · subst ij
      by_cases hl : i < env.length
      · rw [List.getElem?_set_self hl] at e
        cases e
        rw [getD_set_self (by rw [r.len]; exact hl)]
        exact h
      · rw [List.getElem?_eq_none (by simpa using hl)] at e
        cases e
    · rw [List.getElem?_set_ne ij] at e
      rw [getD_set_ne ij]
      exact r.sl j x e
  dis := fun j k l d e jk e1 e2 e3 e4 => by
    have no : ∀ (j : Nat) (d : D), (env.set i s)[j]? = some (.own d) → i ≠ j := fun j d e ij => by
      subst ij
      by_cases hl : i < env.length
      · rw [List.getElem?_set_self hl] at e
        exact hd d (Option.some.inj e)
      · rw [List.getElem?_eq_none (by simpa using hl)] at e
        cases e
    have n1 := no j d e1
    have n2 := no k e e2
    rw [List.getElem?_set_ne n1] at e1 e3
    rw [List.getElem?_set_ne n2] at e2 e4
    exact r.dis j k l d e jk e1 e2 e3 e4
theorem SR.setV (r : SR K g M σ H env) (h : Rep K g.T M H v d) : SR K g M (σ.set i (some v)) H (env.set i (.val d)) := r.set ⟨v, rfl, h⟩ fun _ => by simp
/-- a fresh object gets a name -/
theorem SR.setO (r : SR K g M σ H env) (g1 : Grow K g.T M H H') (h : FRep K g.T M H H' v d) : ∃ M', SR K g M' (σ.set i (some v)) H' (env.set i (.own d)) := by
  obtain ⟨l, e, n, rs⟩ := h
  subst e
  have r1 := r.grow g1
  have lT : l ≠ g.T.t := fun z => by subst z; exact r.wd.tape.ne n
  have h0 : g.H0 l = none := by
    cases q : g.H0 l with
    | none => rfl
    | some o => rw [r.gr l o lT q] at n; cases n
  have notM : ∀ a, H a ≠ none → a ≠ l := fun a h z => h (by rw [z]; exact n)
  have hl' : H' l ≠ none := by
    cases d <;> first | exact rs.elim | (obtain ⟨_, h, _⟩ := rs; rw [h]; simp) | (obtain ⟨_, _, _, h, _⟩ := rs; rw [h]; simp)
  have kp : ∀ {s : Slot} {o : Option V}, SlotOk K g M H o s → SlotOk K g (fun a => M a ∨ a = l) H' o s := fun {s o} q =>
    SlotOk.keep (fun a h z => z.elim id fun z => absurd z (notM a h)) (fun a z => .inl z) (fun a o n h => g1.keep a o (fun e => n (e ▸ r.wd.mT)) h) (fun l' d' e1 e2 o' h' => by
      subst e1
      obtain ⟨l2, e3, _, nT, _⟩ := q
      rw [e2] at e3; cases e3
      exact g1.keep _ _ nT h') q
  have tp : TapeOk K (fun a => M a ∨ a = l) H' g.T := by
    obtain ⟨k, acc, mix, cells, h1, h2, h3, rr⟩ := g1.tape
    refine ⟨k, acc, mix, cells, h1, h2, fun z => z.elim h3 fun z => ?_, rr⟩
    obtain ⟨_, _, _, _, _, h4, _⟩ := r.wd.tape
    rw [z, n] at h4
    cases h4
  -- no slot of own holds l
  have ownl : ∀ (j : Nat) (e : D) (l2 : Addr), env[j]? = some (.own e) → σ[j]? = some (some (.ref l2)) → l2 ≠ l := fun j e l2 e1 e2 z => by
    have q := r.sl j _ e1
    rw [List.getD_eq_getElem?_getD, e2] at q
    obtain ⟨l3, e3, _, _, _, q⟩ := q
    cases e3
    subst z
    cases e <;> first | exact q.elim | (obtain ⟨_, h, _⟩ := q; rw [n] at h; cases h) | (obtain ⟨_, _, _, h, _⟩ := q; rw [n] at h; cases h)
  refine ⟨fun a => M a ∨ a = l, ⟨tp, .inl r.wd.mT, fun a z => z.elim (fun z => r1.wd.md a z) fun z => by rw [z]; exact hl'⟩, fun a z => .inl (r.m0 a z), fun a z => z.elim (fun z => r.mh a z) fun z => .inr (by rw [z]; exact h0), r1.gr, by simp [r.len], fun j x e => ?_, fun j k l1 d1 e1 jk ej ek sj sk => ?_⟩
  · by_cases ij : i = j
    · subst ij
      by_cases hl : i < env.length
      · rw [List.getElem?_set_self hl] at e
        cases e
        rw [getD_set_self (by rw [r.len]; exact hl)]
        exact ⟨l, rfl, .inr rfl, lT, h0, rs⟩
      · rw [List.getElem?_eq_none (by simpa using hl)] at e
        cases e
    · rw [List.getElem?_set_ne ij] at e
      rw [getD_set_ne ij]
      exact kp (r.sl j x e)
  · by_cases ij : i = j
    · subst ij
      rw [List.getElem?_set_ne jk] at ek sk
      by_cases hl : i < σ.length
      · rw [List.getElem?_set_self hl] at sj
        cases sj
        exact ownl k e1 _ ek sk rfl
      · rw [List.getElem?_eq_none (by simpa using hl)] at sj
        cases sj
    · by_cases ik : i = k
      · subst ik
        rw [List.getElem?_set_ne ij] at ej sj
        by_cases hl : i < σ.length
        · rw [List.getElem?_set_self hl] at sk
          cases sk
          exact ownl j d1 _ ej sj rfl
        · rw [List.getElem?_eq_none (by simpa using hl)] at sk
          cases sk
      · rw [List.getElem?_set_ne ij] at ej sj
        rw [List.getElem?_set_ne ik] at ek sk
        exact r.dis j k l1 d1 e1 jk ej ek sj sk
/-- an own object is changed -/
theorem SR.mut {l : Addr} {o : HO} {d' : D} (r : SR K g M σ H env) (ei : env[i]? = some (.own d)) (es : σ[i]? = some (some (.ref l))) (q : OwnR K g.T M (upd H l o) l d') : SR K g M σ (upd H l o) (env.set i (.own d')) := by
  have hi : i < env.length := by
    rcases Nat.lt_or_ge i env.length with h | h
    · exact h
    · rw [List.getElem?_eq_none h] at ei; cases ei
  have q0 := r.sl i _ ei
  rw [List.getD_eq_getElem?_getD, es] at q0
  obtain ⟨l0, e0, ml, lT, h0, q0⟩ := q0
  cases e0
  have cne : g.T.c ≠ l := fun z => by
    obtain ⟨_, _, _, _, _, _, h3, _⟩ := r.wd.tape
    rw [z] at h3
    exact h3 ml
  have tp : TapeOk K M (upd H l o) g.T := by
    obtain ⟨k, acc, mix, cells, h1, h2, h3, rr⟩ := r.wd.tape
    exact ⟨k, acc, mix, cells, by rw [upd_ne (Ne.symm lT)]; exact h1, by rw [upd_ne cne]; exact h2, h3, rr⟩
  refine ⟨⟨tp, r.wd.mT, fun a z => ?_⟩, r.m0, r.mh, fun a u n e => ?_, by simp [r.len], fun j x e => ?_, fun j k l1 d1 e1 jk ej ek sj sk => ?_⟩
  · by_cases al : a = l
    · rw [al, upd_same]; simp
    · rw [upd_ne al]; exact r.wd.md a z
  · have al : a ≠ l := fun z => by rw [z, h0] at e; cases e
    rw [upd_ne al]
    exact r.gr a u n e
  · by_cases ij : i = j
    · subst ij
      rw [List.getElem?_set_self hi] at e
      cases e
      rw [List.getD_eq_getElem?_getD, es]
      exact ⟨l, rfl, ml, lT, h0, q⟩
    · rw [List.getElem?_set_ne ij] at e
      have qj := r.sl j x e
      refine SlotOk.keep (fun _ _ z => z) (fun _ z => z) (fun a u n h => by rw [upd_ne (fun z => n (by rw [z]; exact ml))]; exact h) (fun l2 d2 e1 e2 u h => ?_) qj
      subst e1
      have hj : j < σ.length := by
        rcases Nat.lt_or_ge j σ.length with h | h
        · exact h
        · rw [List.getD_eq_getElem?_getD, List.getElem?_eq_none h] at e2; cases e2
      have e3 : σ[j]? = some (some (.ref l2)) := by
        rw [List.getD_eq_getElem?_getD, List.getElem?_eq_getElem hj] at e2
        rw [List.getElem?_eq_getElem hj]
        exact congrArg some e2
      have ne : l2 ≠ l := fun z => by
        subst z
        exact r.dis i j l2 d d2 ij ei e es e3
      rw [upd_ne ne]
      exact h
  · have back : ∀ (j : Nat) (d1 : D), (env.set i (.own d'))[j]? = some (.own d1) → ∃ d2, env[j]? = some (.own d2) := fun j d1 e => by
      by_cases ij : i = j
      · subst ij; exact ⟨d, ei⟩
      · rw [List.getElem?_set_ne ij] at e; exact ⟨d1, e⟩
    obtain ⟨d2, e2⟩ := back j d1 ej
    obtain ⟨d3, e3⟩ := back k e1 ek
    exact r.dis j k l1 d2 d3 jk e2 e3 sj sk
/-- an own object becomes a value -/
theorem SR.frz (r : SR K g M σ H env) (ei : env[i]? = some (.own d)) : ∃ M', SR K g M' σ H (env.set i (.val d)) := by
  have hi : i < env.length := by
    rcases Nat.lt_or_ge i env.length with h | h
    · exact h
    · rw [List.getElem?_eq_none h] at ei; cases ei
  obtain ⟨o, es, l, e, ml, lT, h0, q0⟩ := r.slot ei
  subst e
  have nM0 : ¬ g.M0 l := fun z => g.d l z h0
  -- the other slots stand apart from l
  refine ⟨fun a => M a ∧ a ≠ l, ⟨r.wd.tape.mono fun a _ z => z.1, ⟨r.wd.mT, Ne.symm lT⟩, fun a z => r.wd.md a z.1⟩, fun a z => ⟨r.m0 a z, fun e => nM0 (by rw [← e]; exact z)⟩, fun a z => r.mh a z.1, r.gr, by simp [r.len], fun j x e => ?_, fun j k l1 d1 e1 jk ej ek sj sk => ?_⟩
  · by_cases ij : i = j
    · subst ij
      rw [List.getElem?_set_self hi] at e
      cases e
      rw [List.getD_eq_getElem?_getD, es]
      exact ⟨_, rfl, OwnR.rep (M' := M) (M := fun a => M a ∧ a ≠ l) (fun a z => z.1) (fun z => z.2 rfl) q0⟩
    · rw [List.getElem?_set_ne ij] at e
      have qj := r.sl j x e
      cases x with
      | non => exact True.intro
      | val d2 =>
        obtain ⟨v2, e2, r2⟩ := qj
        exact ⟨v2, e2, Rep.keep (fun _ _ z => z.1) (fun _ _ _ h => h) _ _ r2⟩
      | own d2 =>
        obtain ⟨l2, e2, m2, nT2, h02, r2⟩ := qj
        have hj : j < σ.length := by
          rcases Nat.lt_or_ge j σ.length with h | h
          · exact h
          · rw [List.getD_eq_getElem?_getD, List.getElem?_eq_none h] at e2; cases e2
        have e3 : σ[j]? = some (some (.ref l2)) := by
          rw [List.getD_eq_getElem?_getD, List.getElem?_eq_getElem hj] at e2
          rw [List.getElem?_eq_getElem hj]
          exact congrArg some e2
        have ne : l2 ≠ l := fun z => by
          subst z
          exact r.dis i j l2 d d2 ij ei e es e3
        exact ⟨l2, e2, ⟨m2, ne⟩, nT2, h02, OwnR.keep (g := g) (fun _ _ z => z.1) (fun _ _ _ h => h) (fun _ h => h) r2⟩
  · have back : ∀ (j : Nat) (d1 : D), (env.set i (.val d))[j]? = some (.own d1) → env[j]? = some (.own d1) := fun j d1 e => by
      by_cases ij : i = j
      · subst ij
        rw [List.getElem?_set_self hi] at e
        cases e
      · rw [List.getElem?_set_ne ij] at e; exact e
    exact r.dis j k l1 d1 e1 jk (back j d1 ej) (back k e1 ek) sj sk
end
end
end Pl
end

section
set_option Elab.async false
set_option linter.all false
set_option maxRecDepth 100000
set_option maxHeartbeats 1000000
set_option autoImplicit false
namespace Pl
open PySem PySem.Spec PyProof.Rows L2
/-! ### statements -/
section
variable {K : PySem.W.Frag} {g g' : Gh} {A : AEnds} {Dn : Ends}
theorem SR.ret {M : Addr → Prop} {σ : L2.St} {H H' : Hp} {env : AEnv} {v : V} {d : D} (s : SR K g M σ H env) (g1 : Grow K g.T M H H') (r : Rep K g.T M H' v d) : Grow K g.T g.M0 g.H0 H' ∧ Rep K g.T g.M0 H' v d :=
  ⟨(s.grow g1).grow0, (s.grow g1).rep0 r⟩
theorem EndsOk.nxs (e : EndsOk K g A Dn) {N : AEnv → Prop} {N' : L2.St → Hp → Prop} (h : ∀ env M σ H, N env → SR K g M σ H env → N' σ H) : EndsOk K g { A with nx := N } { Dn with nx := N' } := ⟨h, e.rt, e.bk, e.ct⟩
end
section
variable {X : Cx} {st : Stmt} {sts rest : List Stmt} {F G : FS} {e c : Expr} {f : FE} {t : FT} {pos : Pos}
theorem pps_nil : PPSs X [] wNext := pss_nil.imp fun D σ H ⟨g, M, env, A, s, q, k⟩ => k.nx env M σ H q s
theorem pps_one (h : PPS X st F) : PPSs X [st] F := pss_one h
theorem pps_cons (h1 : PPS X st F) (h2 : PPSs X rest G) : PPSs X (st :: rest) (wSeq F G) :=
  (pss_cons h1 h2).imp fun D σ H ⟨g, M, env, A, s, q, k⟩ => ⟨g, M, env, _, s, q, k.nxs fun env M σ H q s => ⟨g, M, env, A, s, q, k⟩⟩
/-- ahead of a block an own object becomes a value -/
theorem pps_frz (i : Nat) (h : PPSs X sts F) : PPSs X sts (wSeq (wFrz i) F) := PSs.imp h fun D σ H ⟨g, M, env, A, s, ⟨d, e, q⟩, k⟩ => by
  obtain ⟨M', s'⟩ := s.frz e
  exact ⟨g, M', _, A, s', q, k⟩
theorem pps_never : PPSs X sts wNever := pss_never.imp fun D σ H ⟨g, M, env, A, s, q, k⟩ => q.elim
theorem pp_never : PPS X st wNever := ps_never.imp fun D σ H ⟨g, M, env, A, s, q, k⟩ => q.elim
theorem pp_pass : PPS X (.Pass pos) wNext := ps_pass.imp fun D σ H ⟨g, M, env, A, s, q, k⟩ => k.nx env M σ H q s
theorem pp_break : PPS X (.Break pos) wBreak := ps_break.imp fun D σ H ⟨g, M, env, A, s, q, k⟩ => k.bk env M σ H q s
theorem pp_continue : PPS X (.Continue pos) wCont := ps_continue.imp fun D σ H ⟨g, M, env, A, s, q, k⟩ => k.ct env M σ H q s
theorem pp_ret (h : PP X e f) : PPS X (.Return (some e) pos) (wRet f) := (ps_ret h).imp fun D σ H ⟨g, M, env, A, s, q, k⟩ => ⟨g, M, env, _, s, q, fun d v H' a b c => k.rt d v H' a (s.ret b c).1 (s.ret b c).2⟩
theorem pp_retN : PPS X (.Return none pos) wRetN := ps_retN.imp fun D σ H ⟨g, M, env, A, s, q, k⟩ => k.rt _ _ H q s.grow0 .non
theorem pp_drop (h : PP X e f) (hs : swapsWith e none pos.line X.env = pure false := by rfl) : PPS X (.Expr e pos) (wDrop f) :=
  (ps_expr h hs).imp fun D σ H ⟨g, M, env, A, s, q, k⟩ => ⟨g, M, env, _, s, q, fun d v H' a b c => k.nx _ M σ H' a (s.grow b)⟩
theorem pp_ifS {a b : List Stmt} (hc : PPT X c t) (ha : PPSs X a F) (hb : PPSs X b G) : PPS X (.If c a b pos) (wIfS t F G) :=
  (ps_if hc ha hb).imp fun D σ H ⟨g, M, env, A, s, q, k⟩ => ⟨g, M, env, _, s, q, fun b H' a gr => by
    split at a
    · rename_i h
      rw [if_pos h]
      exact ⟨g, M, env, A, s.grow gr, a, k⟩
    · rename_i h
      rw [if_neg h]
      exact ⟨g, M, env, A, s.grow gr, a, k⟩⟩
theorem pp_set {i : Nat} {x : Str} {pos' : Pos} (hN : X.N.Nodup) (hi : X.N[i]? = some x) (hx : Loc X.env.scope x) (he : PP X e f) (hs : swapsWith e (some (.Name x pos')) pos.line X.env = pure false := by rfl) (hf : X.fn x = true ∨ X.env.scope.names.lookup x = some .local := by first | exact .inl rfl | exact .inr rfl | assumption) :
    PPS X (.Assign [.Name x pos'] e pos) (wSet i f) :=
  (ps_set hN hi hx he hs hf).imp fun D σ H ⟨g, M, env, A, s, q, k⟩ => ⟨g, M, env, _, s, q, fun d v H' a b c => k.nx _ M _ H' a ((s.grow b).setV c)⟩
theorem pp_setO {i : Nat} {x : Str} {pos' : Pos} (hN : X.N.Nodup) (hi : X.N[i]? = some x) (hx : Loc X.env.scope x) (he : PF X e f) (hs : swapsWith e (some (.Name x pos')) pos.line X.env = pure false := by rfl) (hf : X.fn x = true ∨ X.env.scope.names.lookup x = some .local := by first | exact .inl rfl | exact .inr rfl | assumption) :
    PPS X (.Assign [.Name x pos'] e pos) (wSetO i f) :=
  (ps_set hN hi hx he hs hf).imp fun D σ H ⟨g, M, env, A, s, q, k⟩ => ⟨g, M, env, _, s, q, fun d v H' a b c => by
    obtain ⟨M', s'⟩ := s.setO b c
    exact k.nx _ M' _ H' a s'⟩
/-! ### targets -/
def gNames : List Nat → TGs
  | [] => gNil
  | i :: is => gCons (gName i) (gNames is)
def tgT (K : PySem.W.Frag) : Tgt → TG
  | .name i => gName i
  | .tup is => gTup K is.length (gNames is)
theorem wipe_set {σ : L2.St} {i : Nat} {o : Option V} : ∀ {vs : List Nat}, i ∈ vs → wipe (σ.set i o) vs = wipe σ vs
  | [], h => by cases h
  | v :: vs, h => by
    unfold wipe
    by_cases e : i = v
    · subst e
      by_cases h2 : i ∈ vs
      · rw [wipe_set h2]
      · have : ∀ {vs : List Nat}, i ∉ vs → (wipe (σ.set i o) vs) = (wipe σ vs).set i o := by
          intro vs
          induction vs with
          | nil => intro _; rfl
          | cons w ws ih =>
            intro hn
            unfold wipe
            rw [ih (fun z => hn (List.mem_cons_of_mem _ z)), List.set_comm]
            exact fun z => hn (by rw [z]; exact List.mem_cons_self)
        rw [this h2, List.set_set]
    · have h2 : i ∈ vs := (List.mem_cons.mp h).elim (fun z => absurd z e) id
      rw [wipe_set h2]
theorem gNames_ok {K : PySem.W.Frag} {g : Gh} {M : Addr → Prop} {H : Hp} (vs : List Nat) : ∀ {is : List Nat} {us : List V} {ds : List D} {σ : L2.St} {env env' : AEnv} {Q : L2.St → Hp → Prop}, SR K g M σ H env → Reps K g.T M H us ds → setAll is ds env = some env' →
    (∀ σ', SR K g M σ' H env' → ((∀ i ∈ is, i ∈ vs) → wipe σ' vs = wipe σ vs) → Q σ' H) → gNames is us σ H Q
  | [], us, [], σ, env, env', Q, s, r, e, k => by
    cases r
    cases e
    exact ⟨rfl, k σ s fun _ => rfl⟩
  | [], us, d :: ds, σ, env, env', Q, s, r, e, k => by cases e
  | i :: is, us, [], σ, env, env', Q, s, r, e, k => by cases e
  | i :: is, us, d :: ds, σ, env, env', Q, s, r, e, k => by
    cases r with
    | cons r1 r2 =>
      refine ⟨_, _, rfl, ?_⟩
      refine gNames_ok vs (s.setV (i := i) r1) r2 e fun σ' s' w => k σ' s' fun hv => ?_
      rw [w fun j hj => hv j (List.mem_cons_of_mem _ hj), wipe_set (hv i List.mem_cons_self)]
theorem setAll_len : ∀ {is : List Nat} {ds : List D} {env env' : AEnv}, setAll is ds env = some env' → is.length = ds.length
  | [], [], _, _, _ => rfl
  | [], _ :: _, _, _, e => by cases e
  | _ :: _, [], _, _, e => by cases e
  | _ :: _, _ :: _, _, _, e => congrArg Nat.succ (setAll_len e)
theorem tgT_ok {K : PySem.W.Frag} {g : Gh} {M : Addr → Prop} {H : Hp} (vs : List Nat) {t : Tgt} {v : V} {d : D} {σ : L2.St} {env env' : AEnv} {Q : L2.St → Hp → Prop} (s : SR K g M σ H env) (r : Rep K g.T M H v d) (e : bindT t d env = some env')
    (k : ∀ σ', SR K g M σ' H env' → ((∀ i ∈ t.slots, i ∈ vs) → wipe σ' vs = wipe σ vs) → Q σ' H) : tgT K t v σ H Q := by
  cases t with
  | name i =>
    cases e
    exact k _ (s.setV r) fun hv => wipe_set (hv i (by simp [Tgt.slots]))
  | tup is =>
    cases d with
    | tup ds =>
      have e : setAll is ds env = some env' := e
      obtain ⟨a, us, e1, h, rs⟩ := r.b.tup
      refine ⟨a, us, e1, h, ?_, gNames_ok vs s rs e k⟩
      rw [rs.length, setAll_len e]
    | _ => cases e
/-- a name, or names, of the def -/
def PPG (X : Cx) (tg : Expr) (t : Tgt) : Prop := PG X tg (tgT X.K t)
theorem ppg_name {i : Nat} {x : Str} (hN : X.N.Nodup) (hi : X.N[i]? = some x) (hx : Loc X.env.scope x) (hf : X.fn x = true ∨ X.env.scope.names.lookup x = some .local := by first | exact .inl rfl | exact .inr rfl | assumption) : PPG X (.Name x pos) (.name i) := pg_name hN hi hx hf
abbrev PPGs (X : Cx) (es : List Expr) (is : List Nat) : Prop := PGs X es (gNames is)
theorem ppgs_nil : PPGs X [] [] := pgs_nil
theorem ppgs_cons {i : Nat} {x : Str} {es : List Expr} {is : List Nat} (hN : X.N.Nodup) (hi : X.N[i]? = some x) (hx : Loc X.env.scope x) (h2 : PPGs X es is) (hf : X.fn x = true ∨ X.env.scope.names.lookup x = some .local := by first | exact .inl rfl | exact .inr rfl | assumption)
    (hs : (assignEach (.Name x pos :: es) X.env).map (·.2) = assign (.Name x pos) X.env :: (assignEach es X.env).map (·.2) := by rfl) : PPGs X (.Name x pos :: es) (i :: is) := pgs_cons (pg_name hN hi hx hf) h2 hs
theorem ppg_tup {es : List Expr} {k : Nat} {is : List Nat} (hc : X.calm = true) (h : PPGs X es is) (hn : (assignEach es X.env).length = is.length := by rfl) (hst : (assignEach es X.env).findIdx? (·.1) = none := by rfl) : PPG X (.Tuple es k pos) (.tup is) := pg_tup hc h hn hst
theorem pp_asg {tg : Expr} {tt : Tgt} (he : PP X e f) (hg : PPG X tg tt) (hs : swapsWithSole [tg] e pos.line X.env = pure false := by rfl) (hw : swappedStores [tg] e X.env = pure none := by rfl)
    (h1 : (assignEach [tg] X.env).map (·.2) = [assign tg X.env] := by rfl) : PPS X (.Assign [tg] e pos) (wAsg tt f) :=
  (ps_asg he hg hs hw h1).imp fun D σ H ⟨g, M, env, A, s, q, k⟩ => ⟨g, M, env, _, s, q, fun d v H' ⟨env', e1, a⟩ b c => tgT_ok [] (s.grow b) c e1 fun σ' s' _ => k.nx _ M σ' H' a s'⟩
end
end Pl
end

section
set_option Elab.async false
set_option linter.all false
set_option maxRecDepth 100000
set_option maxHeartbeats 1000000
set_option autoImplicit false
namespace Pl
open PySem PySem.Spec PyProof.Rows L2
/-! ### while -/
section
variable {X : Cx} {st : Stmt} {body : List Stmt} {F G : FS} {e c : Expr} {f : FE} {t : FT} {pos : Pos}
theorem pp_while (hp : PassesOwn (model X.prog X.w) X.A X.env X.xe) (hc : PPT X c t) (hb : PPSs X body F) : PPS X (.While c body [] pos) (wWhile t F) :=
  (ps_while hp hc hb).imp fun D σ H ⟨g, M, env, A, s, ⟨n, q⟩, k⟩ => by
    refine ⟨fun m σ H => ∃ M env, SR X.K g M σ H env ∧ wWhileN t F m A env, ⟨n, M, env, s, q⟩, ?_⟩
    rintro m σ1 H1 ⟨M1, env1, s1, q1⟩
    cases m with
    | zero => exact q1.elim
    | succ m =>
      refine ⟨g, M1, env1, _, s1, q1, fun b H2 q2 g2 => ?_⟩
      have s2 := s1.grow g2
      dsimp only
      split at q2
      · rename_i h
        rw [if_pos h]
        refine ⟨fun σ H => ∃ M env, SR X.K g M σ H env ∧ wWhileN t F m A env, fun σ' H' z => ⟨m, Nat.lt_succ_self _, z⟩, g, M1, env1, _, s2, q2, ?_⟩
        exact ⟨fun env M σ H a b => ⟨M, env, b, a⟩, k.rt, fun env M σ H a b => k.nx env M σ H a b, fun env M σ H a b => ⟨M, env, b, a⟩⟩
      · rename_i h
        rw [if_neg h]
        exact k.nx env1 M1 _ _ q2 s2
/-! ### what is walked -/
/-- the iterator J yields these, from H1 on -/
def ItOk (K : PySem.W.Frag) (T : Tp) (M : Addr → Prop) (J : It) (ds : List D) (H1 : Hp) : Prop :=
  ∀ (M' : Addr → Prop) (i : Nat) (H : Hp), (∀ a, M' a → M a ∨ H1 a = none) → Wd K T M' H → (∀ a o, ¬ M a → H1 a = some o → H a = some o) →
    (i < ds.length → J.go i H ∧ ∀ x H', J.yld i H x H' → Grow K T M' H H' ∧ ∃ d, ds[i]? = some d ∧ Rep K T M' H' x d) ∧ (ds.length ≤ i → J.stop i H)
def tI (K : PySem.W.Frag) (f : FEs) : TI := fun σ H R => ∃ g M env Qd, SR K g M σ H env ∧ f env Qd ∧ ∀ ds J H1, Qd ds → Grow K g.T M H H1 → ItOk K g.T M J ds H1 → R J H1
abbrev PPI (X : Cx) (tg it : Expr) (f : FEs) : Prop := PI X tg it (tI X.K f)
theorem _root_.L2.PI.imp {tg e : Expr} {t t' : TI} (h : PI X tg e t) (w : ∀ σ H Q, t' σ H Q → t σ H Q) : PI X tg e t' := ⟨fun pins s σ H Q I q => h.run pins s σ H Q I (w _ _ _ q)⟩
/-- from another ghost: what stands at a loop's start stays -/
theorem SR.rebase {K : PySem.W.Frag} {g : Gh} {M : Addr → Prop} {σ : L2.St} {H : Hp} {env : AEnv} (s : SR K g M σ H env) : ∃ g' : Gh, g'.T = g.T ∧ g'.M0 = g.M0 ∧ SR K g' M σ H env ∧ (∀ a o, a ≠ g.T.t → g.H0 a = some o → g'.H0 a = some o) ∧
    ∀ M' σ' H' env', SR K g' M' σ' H' env' → SR K g M' σ' H' env' ∧ (∀ a o, ¬ M a → H a = some o → H' a = some o) ∧ ∀ a, M' a → M a ∨ H a = none := by
  classical
  have h0 : ∀ a, g.M0 a → ¬ (M a ∧ ¬ g.M0 a) := fun a z w => w.2 z
  have hH : ∀ a o, a ≠ g.T.t → g.H0 a = some o → (if M a ∧ ¬ g.M0 a then none else H a) = some o := fun a o n e => by
    rw [if_neg]
    · exact s.gr a o n e
    · rintro ⟨m, n0⟩
      rcases s.mh a m with z | z
      · exact n0 z
      · rw [z] at e; cases e
  refine ⟨⟨g.T, g.M0, fun a => if M a ∧ ¬ g.M0 a then none else H a, g.h, fun a z => by rw [if_neg (h0 a z)]; exact s.wd.md a (s.m0 a z)⟩, rfl, rfl, ?_, hH, ?_⟩
  · refine ⟨s.wd, s.m0, fun a m => ?_, fun a o n e => ?_, s.len, fun i x e => ?_, s.dis⟩
    · by_cases z : g.M0 a
      · exact .inl z
      · exact .inr (if_pos ⟨m, z⟩)
    · have e : (if M a ∧ ¬ g.M0 a then none else H a) = some o := e
      split at e
      · cases e
      · exact e
    · have q := s.sl i x e
      cases x with
      | non => exact q
      | val d => exact q
      | own d =>
        obtain ⟨l, e1, ml, nT, hl, r⟩ := q
        refine ⟨l, e1, ml, nT, if_pos ⟨ml, fun z => g.d l z hl⟩, r⟩
  · intro M' σ' H' env' s'
    have hnone : ∀ a, (if M a ∧ ¬ g.M0 a then none else H a) = none → g.M0 a ∨ g.H0 a = none := fun a z => by
      split at z
      · rename_i w
        rcases s.mh a w.1 with q | q
        · exact absurd q w.2
        · exact .inr q
      · by_cases aT : a = g.T.t
        · exact .inl (by rw [aT]; exact g.h)
        · cases q : g.H0 a with
          | none => exact .inr rfl
          | some o => rw [s.gr a o aT q] at z; cases z
    refine ⟨⟨s'.wd, s'.m0, fun a m => ?_, fun a o n e => s'.gr a o n (hH a o n e), s'.len, fun i x e => ?_, s'.dis⟩, fun a o n e => ?_, fun a m => ?_⟩
    · rcases s'.mh a m with z | z
      · exact .inl z
      · exact hnone a z
    · have q := s'.sl i x e
      cases x with
      | non => exact q
      | val d => exact q
      | own d =>
        obtain ⟨l, e1, ml, nT, hl, r⟩ := q
        rcases hnone l hl with z | z
        · exact absurd (show (if M l ∧ ¬ g.M0 l then none else H l) = none from hl) (by rw [if_neg (h0 l z)]; exact s.wd.md l (s.m0 l z))
        · exact ⟨l, e1, ml, nT, z, r⟩
    · exact s'.gr a o (fun z => n (by rw [z]; exact s.wd.mT)) (show (if M a ∧ ¬ g.M0 a then none else H a) = some o by rw [if_neg (fun z => n z.1)]; exact e)
    · rcases s'.mh a m with z | z
      · exact .inl (s.m0 a z)
      · have z : (if M a ∧ ¬ g.M0 a then none else H a) = none := z
        split at z
        · rename_i w; exact .inl w.1
        · exact .inr z
theorem EndsOk.base {K : PySem.W.Frag} {g g' : Gh} {A : AEnds} {Dn : Ends} (hT : g'.T = g.T) (hM : g'.M0 = g.M0) (hH : ∀ a o, a ≠ g.T.t → g.H0 a = some o → g'.H0 a = some o) (k : EndsOk K g A Dn) : ∀ d v H, A.rt d → Grow K g'.T g'.M0 g'.H0 H → Rep K g'.T g'.M0 H v d → Dn.rt v H := fun d v H a b c => by
  rw [hT, hM] at b c
  exact k.rt d v H a ⟨fun x o n e => b.keep x o n (hH x o n e), b.tape⟩ c
theorem pp_for {iter tg : Expr} {tt : Tgt} {fi : FEs} (hp : PassesOwn (model X.prog X.w) X.A X.env X.xe) (hc : X.calm = true) (hi : PPI X tg iter fi) (hg : PPG X tg tt) (hb : PPSs X body F)
    (hs : ∀ x, foldedSetIterable iter X.env x = pure x := by intro _; rfl) : PPS X (.For tg iter body [] pos) (wFor tt fi F) :=
  (ps_for hp hc hi hg hb hs).imp fun D σ H ⟨g, M, env, A, s, q, k⟩ => ⟨g, M, env, _, s, q, fun ds J H1 q1 g1 it => by
    have s1 := s.grow g1
    obtain ⟨g', hT, hM, s', hH, back⟩ := s1.rebase
    have krt := EndsOk.base hT hM hH k
    refine ⟨fun i m σ H => m = ds.length - i ∧ i ≤ ds.length ∧ ∃ M' env', SR X.K g' M' σ H env' ∧ wForL tt F (ds.drop i) A env', ⟨ds.length, by simp, Nat.zero_le _, M, env, s', by simpa using q1⟩, ?_⟩
    rintro i m σ2 H2 ⟨rfl, hi, M2, env2, s2, q2⟩
    obtain ⟨sb, kp, mm⟩ := back _ _ _ _ s2
    obtain ⟨go, stop⟩ := it M2 i H2 mm sb.wd kp
    rcases Nat.lt_or_ge i ds.length with lt | ge
    · obtain ⟨go, yl⟩ := go lt
      refine .inr ⟨go, fun σ H => ∃ M' env', SR X.K g' M' σ H env' ∧ wForL tt F (ds.drop (i + 1)) A env', fun σ' H' z => ⟨ds.length - (i + 1), by omega, rfl, lt, z⟩, fun x H3 y => ?_⟩
      obtain ⟨g3, d, ed, r⟩ := yl x H3 y
      rw [← hT] at g3 r
      have s3 := s2.grow g3
      have dd : ds.drop i = d :: ds.drop (i + 1) := by
        rw [List.drop_eq_getElem_cons lt]
        rw [List.getElem?_eq_getElem lt] at ed
        rw [Option.some.inj ed]
      rw [dd] at q2
      obtain ⟨e4, b4, q4⟩ := q2
      refine tgT_ok [] s3 r b4 fun σ' s4 _ => ⟨g', M2, e4, _, s4, q4, ?_⟩
      exact ⟨fun env M σ H a b => ⟨M, env, b, a⟩, krt, fun env M σ H a b => k.nx env M σ H a (back _ _ _ _ b).1, fun env M σ H a b => ⟨M, env, b, a⟩⟩
    · have : i = ds.length := Nat.le_antisymm hi ge
      subst this
      rw [List.drop_length] at q2
      exact .inl ⟨stop (Nat.le_refl _), k.nx _ _ _ _ q2 sb⟩⟩
/-! ### lists, tuples -/
def iSeq (K : PySem.W.Frag) (tl : TE) : TI := fun σ H R => tl σ H fun x H1 => ∃ a, x = .ref a ∧ ((∃ xs, SqL K H1 a xs ∧ R (Itl K a) H1) ∨ ∃ xs, SqT K H1 a xs ∧ R (Itt K a) H1)
theorem pi_seq {tg l : Expr} {tl : TE} (hl : PE X l tl) : PI X tg l (iSeq X.K tl) := by
  refine ⟨fun pins s σ H R I h => ?_⟩
  refine thn (hl.run pins s σ H _ I h) fun v s1 ⟨x, H1, I1, r1, q1⟩ => ?_
  obtain ⟨a, e, q1⟩ := q1
  subst e
  cases r1
  have fr : ∀ b ∈ [s1.heap.objs.size], FpOk X pins H1 b := fun b hb => by
    have e : b = s1.heap.objs.size := by simpa using hb
    subst e
    exact I1.fpOk (Nat.le_refl _) (I1.hok.fresh (Nat.le_refl _))
  rcases q1 with ⟨xs, hq, q⟩ | ⟨xs, hq, q⟩
  · obtain ⟨its, rv, p, hz⟩ := I1.list hq
    refine wpAny_pyIter_list p.isList ?_
    exact ⟨s1.heap.objs.size, [s1.heap.objs.size], _, _, H1, rfl, I1.kept (t' := s1.toks) fun b o e => Heap.get?_push_of_some _ e, turn_list a _, ⟨_, Heap.get?_push_size _ rfl, rfl, rfl⟩, fr, q⟩
  · obtain ⟨its, rv, p, hz⟩ := I1.tuple hq
    refine wpAny_pyIter_tuple (show s1.heap.IsTuple a its.toArray from p) ?_
    exact ⟨s1.heap.objs.size, [s1.heap.objs.size], _, _, H1, rfl, I1.kept (t' := s1.toks) fun b o e => Heap.get?_push_of_some _ e, turn_tuple a _, ⟨_, Heap.get?_push_size _ rfl, rfl, rfl⟩, fr, q⟩
section
variable {K : PySem.W.Frag} {T : Tp} {M M' : Addr → Prop} {H H1 : Hp}
theorem Reps.later {ds : List D} {vs : List V} (r : Reps K T M H1 vs ds) (hM : ∀ a, M' a → M a ∨ H1 a = none) (kp : ∀ a o, ¬ M a → H1 a = some o → H a = some o) : Reps K T M' H vs ds :=
  Reps.keep (fun a h z => (hM a z).elim id fun w => absurd w h) kp ds vs r
theorem it_list {a : Addr} {vs : List V} {ds : List D} (h : H1 a = some (.lst vs)) (n : ¬ M a) (r : Reps K T M H1 vs ds) : ItOk K T M (Itl K a) ds H1 := by
  intro M' i H hM w kp
  have h2 := kp a _ n h
  have r2 := r.later hM kp
  refine ⟨fun lt => ?_, fun ge => ⟨vs, .of h2, by rw [r.length]; exact ge⟩⟩
  have e : ds[i]? = some ds[i] := List.getElem?_eq_getElem lt
  obtain ⟨v, ev, rv⟩ := r2.get e
  refine ⟨⟨vs, v, .of h2, ev⟩, fun x H' y => ?_⟩
  obtain ⟨e', y⟩ := y
  subst e'
  have z := y vs (.of h2)
  rw [ev] at z
  cases z
  exact ⟨.refl w, _, e, rv⟩
theorem it_tup {a : Addr} {vs : List V} {ds : List D} (hs : ∀ H, (∀ a o, ¬ M a → H1 a = some o → H a = some o) → SqT K H a vs) (r : Reps K T M H1 vs ds) : ItOk K T M (Itt K a) ds H1 := by
  intro M' i H hM w kp
  have h2 := hs H kp
  have r2 := r.later hM kp
  refine ⟨fun lt => ?_, fun ge => ⟨vs, h2, by rw [r.length]; exact ge⟩⟩
  have e : ds[i]? = some ds[i] := List.getElem?_eq_getElem lt
  obtain ⟨v, ev, rv⟩ := r2.get e
  refine ⟨⟨vs, v, h2, ev⟩, fun x H' y => ?_⟩
  obtain ⟨e', y⟩ := y
  subst e'
  have z := y vs h2
  rw [ev] at z
  cases z
  exact ⟨.refl w, _, e, rv⟩
theorem Rep.tupS {v : V} {ds : List D} (r : Rep K T M H1 v (.tup ds)) : ∃ a vs, v = .ref a ∧ (∀ H, (∀ a o, ¬ M a → H1 a = some o → H a = some o) → SqT K H a vs) ∧ Reps K T M H1 vs ds := by
  cases r with
  | tup h n rs => exact ⟨_, _, rfl, fun H kp => .of (kp _ _ n h), rs⟩
  | wtup h rs => exact ⟨_, _, rfl, fun H _ => h.sq, rs⟩
end
theorem ppi_items {tg l : Expr} (hl : PP X l f) : PPI X tg l (wItems f) :=
  PI.imp (pi_seq hl) fun σ H R ⟨g, M, env, Qd, s, q, k⟩ => ⟨g, M, env, _, s, q, fun d v H1 q1 g1 r1 => by
    split at q1
    · cases r1 with
      | lst h n rs => exact ⟨_, rfl, .inl ⟨_, .of h, k _ _ _ q1 g1 (it_list h n rs)⟩⟩
    · obtain ⟨a, vs, e, hs, rs⟩ := r1.tupS
      exact ⟨a, e, .inr ⟨vs, hs H1 (fun _ _ _ h => h), k _ _ _ q1 g1 (it_tup hs rs)⟩⟩
    · exact q1.elim⟩
/-! ### ranges -/
theorem it_range {K : PySem.W.Frag} {T : Tp} {M : Addr → Prop} {H1 : Hp} (lo : Int) (n : Nat) : ItOk K T M (Itr lo n) (rngD lo n) H1 := by
  intro M' i H hM w kp
  have hl : (rngD lo n).length = n := by simp [rngD]
  rw [hl]
  refine ⟨fun lt => ⟨lt, fun x H' y => ?_⟩, fun ge => ge⟩
  obtain ⟨e, y⟩ := y
  subst e y
  refine ⟨.refl w, .int (lo + i), ?_, .int _⟩
  simp [rngD, lt]
theorem ppi_range1 {tg a : Expr} {fs : FEs} {p : Pos} (hg : Gl X "range") (hm : X.mg "range" = none) (ha : PPA X [a] fs) (hs : starEach [a] X.env = [(false, eval a X.env)] := by rfl) : PPI X tg (.Call (.Name "range" p) [a] [] pos) (wRng1 fs) :=
  PI.imp (pi_range1 hg hm ha hs) fun σ H R ⟨g, M, env, Qd, s, q, k⟩ => ⟨g, M, env, _, s, q, fun ds vs H1 q1 g1 r1 => by
    split at q1
    · obtain ⟨v, us, e, r, r2⟩ := r1.inv_cons
      rw [r2.inv_nil] at e
      rw [r.b.int] at e
      exact ⟨_, e, q1.1.1, q1.1.2, k _ _ _ q1.2 g1 (it_range _ _)⟩
    · exact q1.elim⟩
theorem ppi_range2 {tg a b : Expr} {fs : FEs} {p : Pos} (hg : Gl X "range") (hm : X.mg "range" = none) (ha : PPA X [a, b] fs) (hs : starEach [a, b] X.env = [(false, eval a X.env), (false, eval b X.env)] := by rfl) (hs2 : starEach [b] X.env = [(false, eval b X.env)] := by rfl) : PPI X tg (.Call (.Name "range" p) [a, b] [] pos) (wRng2 fs) :=
  PI.imp (pi_range2 hg hm ha hs hs2) fun σ H R ⟨g, M, env, Qd, s, q, k⟩ => ⟨g, M, env, _, s, q, fun ds vs H1 q1 g1 r1 => by
    split at q1
    · obtain ⟨v, us, e, r, r2⟩ := r1.inv_cons
      obtain ⟨v', us', e', r', r2'⟩ := r2.inv_cons
      rw [r2'.inv_nil] at e'
      rw [e', r.b.int, r'.b.int] at e
      exact ⟨_, _, e, q1.1, k _ _ _ q1.2 g1 (it_range _ _)⟩
    · exact q1.elim⟩
end
end Pl
end

section
set_option Elab.async false
set_option linter.all false
set_option maxRecDepth 100000
set_option maxHeartbeats 1000000
set_option autoImplicit false
namespace Pl
open PySem PySem.Spec PyProof.Rows L2
section
variable {K : PySem.W.Frag} {g : Gh} {M M' : Addr → Prop} {σ : L2.St} {H H1 H' : Hp} {env : AEnv} {i : Nat} {v : V} {d : D} {l : Addr}
/-- no own slot holds l -/
def NoOwn (σ : L2.St) (env : AEnv) (l : Addr) : Prop := ∀ (j : Nat) (e : D) (l2 : Addr), env[j]? = some (.own e) → σ[j]? = some (some (.ref l2)) → l2 ≠ l
theorem SR.noOwn (r : SR K g M σ H env) (n : H l = none) : NoOwn σ env l := fun j e l2 e1 e2 z => by
  have q := r.sl j _ e1
  rw [List.getD_eq_getElem?_getD, e2] at q
  obtain ⟨l3, e3, _, _, _, q⟩ := q
  cases e3
  subst z
  cases e <;> first | exact q.elim | (obtain ⟨_, h, _⟩ := q; rw [n] at h; cases h) | (obtain ⟨_, _, _, h, _⟩ := q; rw [n] at h; cases h)
theorem SR.slotOf (r : SR K g M σ H env) {j : Nat} {e : D} (ej : env[j]? = some (.own e)) {l2 : Addr} (e2 : σ.getD j none = some (.ref l2)) : σ[j]? = some (some (.ref l2)) := by
  obtain ⟨o, eo, l3, e3, _⟩ := r.slot ej
  subst e3
  rw [List.getD_eq_getElem?_getD, eo] at e2
  rw [eo]
  exact congrArg some e2
/-- a new object, hidden -/
theorem SR.hide (r : SR K g M σ H env) (n : H l = none) (o : HO) : SR K g (fun a => M a ∨ a = l) σ (upd H l o) env := by
  have gw : Grow K g.T M H (upd H l o) := .new r.wd n
  have r1 := r.grow gw
  have lT : l ≠ g.T.t := fun z => by subst z; exact r.wd.tape.ne n
  have h0 : g.H0 l = none := by
    cases q : g.H0 l with
    | none => rfl
    | some o => rw [r.gr l o lT q] at n; cases n
  have notM : ∀ a, H a ≠ none → a ≠ l := fun a h z => h (by rw [z]; exact n)
  refine ⟨⟨?_, .inl r.wd.mT, fun a z => z.elim (fun z => r1.wd.md a z) fun z => by rw [z, upd_same]; simp⟩, fun a z => .inl (r.m0 a z), fun a z => z.elim (fun z => r.mh a z) fun z => .inr (by rw [z]; exact h0), r1.gr, r.len, fun j x e => ?_, r.dis⟩
  · obtain ⟨k, acc, mix, cells, h1, h2, h3, rr⟩ := gw.tape
    refine ⟨k, acc, mix, cells, h1, h2, fun z => z.elim h3 fun z => ?_, rr⟩
    obtain ⟨_, _, _, _, _, h4, _⟩ := r.wd.tape
    rw [z, n] at h4
    cases h4
  · have q := r.sl j x e
    refine SlotOk.keep (fun a h z => z.elim id fun z => absurd z (notM a h)) (fun a z => .inl z) (fun a o n h => gw.keep a o (fun e => n (e ▸ r.wd.mT)) h) (fun l' d' e1 e2 o' h' => ?_) q
    subst e1
    obtain ⟨l2, e3, _, nT, _⟩ := q
    rw [e2] at e3; cases e3
    exact gw.keep _ _ nT h'
/-- a hidden object is changed -/
theorem SR.updH (r : SR K g M σ H env) (ml : M l) (lT : l ≠ g.T.t) (h0 : g.H0 l = none) (no : NoOwn σ env l) (o : HO) : SR K g M σ (upd H l o) env := by
  have cne : g.T.c ≠ l := fun z => by
    obtain ⟨_, _, _, _, _, _, h3, _⟩ := r.wd.tape
    rw [z] at h3
    exact h3 ml
  refine ⟨⟨?_, r.wd.mT, fun a z => ?_⟩, r.m0, r.mh, fun a u n e => ?_, r.len, fun j x e => ?_, r.dis⟩
  · obtain ⟨k, acc, mix, cells, h1, h2, h3, rr⟩ := r.wd.tape
    exact ⟨k, acc, mix, cells, by rw [upd_ne (Ne.symm lT)]; exact h1, by rw [upd_ne cne]; exact h2, h3, rr⟩
  · by_cases al : a = l
    · rw [al, upd_same]; simp
    · rw [upd_ne al]; exact r.wd.md a z
  · have al : a ≠ l := fun z => by rw [z, h0] at e; cases e
    rw [upd_ne al]
    exact r.gr a u n e
  · have qj := r.sl j x e
    refine SlotOk.keep (fun _ _ z => z) (fun _ z => z) (fun a u n h => by rw [upd_ne (fun z => n (by rw [z]; exact ml))]; exact h) (fun l2 d2 e1 e2 u h => ?_) qj
    subst e1
    rw [upd_ne (no j d2 l2 e (r.slotOf e e2))]
    exact h
theorem SR.wipe (r : SR K g M σ H env) : ∀ vs : List Nat, SR K g M (L2.wipe σ vs) H (wipeE env vs)
  | [] => r
  | v :: vs => (r.wipe vs).set (s := .non) True.intro fun _ => by simp
theorem wipe_wipe : ∀ (vs ws : List Nat) (σ : L2.St), (∀ v ∈ ws, v ∈ vs) → L2.wipe (L2.wipe σ ws) vs = L2.wipe σ vs
  | vs, [], σ, _ => rfl
  | vs, w :: ws, σ, h => by
    show L2.wipe ((L2.wipe σ ws).set w none) vs = _
    rw [wipe_set (h w List.mem_cons_self), wipe_wipe vs ws σ fun v hv => h v (List.mem_cons_of_mem _ hv)]
theorem NoOwn.wipe (no : NoOwn σ env l) : ∀ vs : List Nat, NoOwn (L2.wipe σ vs) (wipeE env vs) l
  | [] => no
  | v :: vs => fun j e l2 e1 e2 => by
    have ih := NoOwn.wipe no vs
    have e1 : ((wipeE env vs).set v .non)[j]? = some (.own e) := e1
    have e2 : ((L2.wipe σ vs).set v none)[j]? = some (some (.ref l2)) := e2
    by_cases jv : v = j
    · subst jv
      by_cases hl : v < (wipeE env vs).length
      · rw [List.getElem?_set_self hl] at e1; cases e1
      · rw [List.getElem?_eq_none (by simpa using hl)] at e1; cases e1
    · rw [List.getElem?_set_ne jv] at e1 e2
      exact ih j e l2 e1 e2
end
section
variable {K : PySem.W.Frag}
theorem tLc_of {fi : FEs} {t : Tgt} {c : FT} {f : FE} {vs : List Nat} (hv : ∀ i ∈ t.slots, i ∈ vs) (σ : L2.St) (H : Hp) (Q : VK) (h : tF K (wLc fi t c f vs) σ H Q) : tLc (tI K fi) (tgT K t) (tPT K c) (tP K f) vs σ H Q := by
  obtain ⟨g, M, env, Qd, s, q, k⟩ := h
  refine ⟨g, M, env, _, s, q, fun ds J H1 q1 g1 it D hD => ?_⟩
  have s1 := s.grow g1
  have DT : D ≠ g.T.t := fun z => by subst z; exact s1.wd.tape.ne hD
  have h0 : g.H0 D = none := by
    cases q : g.H0 D with
    | none => rfl
    | some o => rw [s1.gr D o DT q] at hD; cases hD
  have no : NoOwn (L2.wipe σ vs) (wipeE env vs) D := (s1.noOwn hD).wipe vs
  refine ⟨fun i m H => m = ds.length - i ∧ i ≤ ds.length ∧ ∃ acc dacc, H D = some (.lst acc) ∧ Reps K g.T (fun a => M a ∨ a = D) H acc dacc ∧ SR K g (fun a => M a ∨ a = D) (L2.wipe σ vs) H (wipeE env vs) ∧
      (∀ a o, a ≠ g.T.t → H1 a = some o → H a = some o) ∧ wComp t c f (wipeE env vs) (ds.drop i) dacc Qd, ⟨ds.length, by simp, Nat.zero_le _, [], [], upd_same, .nil, (s1.wipe vs).hide hD _, fun a o _ e => by rw [upd_ne (ne_of_none e hD)]; exact e, by simpa using q1⟩, ?_⟩
  rintro i m H2 ⟨rfl, hi, acc, dacc, hD2, rs, s2, kp, q2⟩
  have ne : ∀ a o, H1 a = some o → a ≠ D := fun a o e => ne_of_none e hD
  obtain ⟨go, stop⟩ := it (fun a => M a ∨ a = D) i H2 (fun a z => z.elim .inl fun z => .inr (by rw [z]; exact hD)) s2.wd fun a o n e => kp a o (fun z => n (by rw [z]; exact s.wd.mT)) e
  rcases Nat.lt_or_ge i ds.length with lt | ge
  · obtain ⟨go, yl⟩ := go lt
    refine .inr ⟨go, fun H => ∃ acc dacc, H D = some (.lst acc) ∧ Reps K g.T (fun a => M a ∨ a = D) H acc dacc ∧ SR K g (fun a => M a ∨ a = D) (L2.wipe σ vs) H (wipeE env vs) ∧
      (∀ a o, a ≠ g.T.t → H1 a = some o → H a = some o) ∧ wComp t c f (wipeE env vs) (ds.drop (i + 1)) dacc Qd, fun H' z => ⟨ds.length - (i + 1), by omega, rfl, lt, z⟩, fun x H3 y => ?_⟩
    obtain ⟨g3, d, ed, r⟩ := yl x H3 y
    have s3 := s2.grow g3
    have dd : ds.drop i = d :: ds.drop (i + 1) := by
      rw [List.drop_eq_getElem_cons lt]
      rw [List.getElem?_eq_getElem lt] at ed
      rw [Option.some.inj ed]
    rw [dd] at q2
    obtain ⟨e4, b4, q4⟩ := q2
    refine tgT_ok vs s3 r b4 fun σ' s4 wp => ⟨(wp hv).trans (wipe_wipe vs vs σ fun _ z => z), ?_⟩
    refine ⟨g, _, e4, _, s4, q4, fun b H4 q5 g4 => ?_⟩
    dsimp only
    have s3' := s3.grow g4
    split at q5
    · rename_i hb
      rw [if_pos hb]
      refine ⟨g, _, e4, _, s4.grow g4, q5, fun d5 v5 H5 q6 g5 r5 => ?_⟩
      have s5 := s3'.grow g5
      have rs5 := s3'.wd.reps g5 (s3.wd.reps g4 (s2.wd.reps g3 rs))
      refine ⟨acc, g5.keep _ _ DT (g4.keep _ _ DT (g3.keep _ _ DT hD2)), by rw [line_eq, rs.length]; exact q6.1, acc ++ [v5], dacc ++ [d5], upd_same, ?_, s5.updH (.inr rfl) DT h0 no _, fun a o n e => ?_, q6.2⟩
      · exact Reps.keep (fun _ _ z => z) (fun a o n h => by rw [upd_ne (fun z => n (.inr z))]; exact h) _ _ (rs5.append (.cons r5 .nil))
      · rw [upd_ne (ne a o e)]
        exact g5.keep _ _ n (g4.keep _ _ n (g3.keep _ _ n (kp a o n e)))
    · rename_i hb
      rw [if_neg hb]
      exact ⟨acc, dacc, g4.keep _ _ DT (g3.keep _ _ DT hD2), s3.wd.reps g4 (s2.wd.reps g3 rs), s3', fun a o n e => g4.keep _ _ n (g3.keep _ _ n (kp a o n e)), q5⟩
  · have : i = ds.length := Nat.le_antisymm hi ge
    subst this
    rw [List.drop_length] at q2
    refine .inl ⟨stop (Nat.le_refl _), k _ _ _ q2 ⟨fun a o n e => kp a o n (g1.keep a o n e), s2.wd.tape.mono fun a _ z => .inl z⟩ ?_⟩
    refine ⟨D, rfl, ?_, acc, hD2, rs⟩
    cases e : H D with
    | none => rfl
    | some o => rw [g1.keep D o DT e] at hD; cases hD
end
section
variable {X : Cx}
theorem ppts_nil : PTs X [] (tPT X.K wYes) := ⟨fun pins s σ H Q I ⟨g, M, env, Qd, sr, q, k⟩ => pts_nil.run pins s σ H Q I (k _ _ q (.refl sr.wd))⟩
theorem ppts_one {c : Expr} {t : FT} (h : PPT X c t) : PTs X [c] (tPT X.K t) := pts_one h
theorem pf_lc {elt tg iter : Expr} {ifs : List Expr} {scope : Scope} {own : List (Str × Nat)} {pos : Pos} {fi : FEs} {t : Tgt} {c : FT} {f : FE} (hc : X.calm = true) (hN : X.N.Nodup) (hv : ∀ i ∈ t.slots, i ∈ own.map (·.2)) (hi : PPI X tg iter fi) (ok : BlkOk X.N X.env.scope scope own)
    (hg : ∀ (s : Shared) (H : Hp) (C : Addr) (cl : List (Str × Addr)) (fp : List Addr), PG (X.blk s H scope (compEnvC scope cl C X.env) fp) tg (tgT X.K t)) (ht : ∀ (s : Shared) (H : Hp) (C : Addr) (cl : List (Str × Addr)) (fp : List Addr), PTs (X.blk s H scope (compEnvC scope cl C X.env) fp) ifs (tPT X.K c))
    (he : ∀ (s : Shared) (H : Hp) (C : Addr) (cl : List (Str × Addr)) (fp : List Addr), PE (X.blk s H scope (compEnvC scope cl C X.env) fp) elt (tP X.K f)) (hs : ∀ x, foldedSetIterable iter X.env x = pure x := by intro _; rfl) :
    PF X (.ListComp elt [⟨tg, iter, ifs, 0⟩] scope pos) (wLc fi t c f (own.map (·.2))) :=
  (pe_lc hc hN hi ok hg ht he hs).imp fun σ H Q h => tLc_of hv σ H Q h
theorem pp_setLc {i : Nat} {y : Str} {py : Pos} {elt tg iter : Expr} {ifs : List Expr} {scope : Scope} {own : List (Str × Nat)} {pos spos : Pos} {fi : FEs} {t : Tgt} {c : FT} {f : FE} (hc : X.calm = true) (hN : X.N.Nodup) (hv : ∀ i ∈ t.slots, i ∈ own.map (·.2)) (hy : X.N[i]? = some y) (hyl : X.env.scope.names.lookup y = some .local)
    (hsw : swapsWith (.ListComp elt [⟨tg, iter, ifs, 0⟩] scope pos) (some (.Name y py)) spos.line X.env = pure true) (hi : PPI X tg iter fi) (ok : BlkOk X.N X.env.scope scope own)
    (hg : ∀ (s : Shared) (H : Hp) (C : Addr) (cl : List (Str × Addr)) (fp : List Addr), PG (X.blk s H scope (compEnvC scope cl C X.env) fp) tg (tgT X.K t)) (ht : ∀ (s : Shared) (H : Hp) (C : Addr) (cl : List (Str × Addr)) (fp : List Addr), PTs (X.blk s H scope (compEnvC scope cl C X.env) fp) ifs (tPT X.K c))
    (he : ∀ (s : Shared) (H : Hp) (C : Addr) (cl : List (Str × Addr)) (fp : List Addr), PE (X.blk s H scope (compEnvC scope cl C X.env) fp) elt (tP X.K f)) (hs : ∀ x, foldedSetIterable iter X.env x = pure x := by intro _; rfl) :
    PPS X (.Assign [.Name y py] (.ListComp elt [⟨tg, iter, ifs, 0⟩] scope pos) spos) (wSet i (wLc fi t c f (own.map (·.2)))) :=
  (ps_setLc hc hN hy hyl hsw hi ok hg ht he hs).imp fun D σ H ⟨g, M, env, A, s, q, k⟩ => tLc_of hv σ H _ ⟨g, M, env, _, s, q, fun d v H' a b c => by
    obtain ⟨l, e, n, r⟩ := c
    subst e
    exact k.nx _ M _ H' a ((s.grow b).setV (r.rep (fun _ z => .inl z) (s.wd.fresh n)))⟩
theorem pp_setLcO {i : Nat} {y : Str} {py : Pos} {elt tg iter : Expr} {ifs : List Expr} {scope : Scope} {own : List (Str × Nat)} {pos spos : Pos} {fi : FEs} {t : Tgt} {c : FT} {f : FE} (hc : X.calm = true) (hN : X.N.Nodup) (hv : ∀ i ∈ t.slots, i ∈ own.map (·.2)) (hy : X.N[i]? = some y) (hyl : X.env.scope.names.lookup y = some .local)
    (hsw : swapsWith (.ListComp elt [⟨tg, iter, ifs, 0⟩] scope pos) (some (.Name y py)) spos.line X.env = pure true) (hi : PPI X tg iter fi) (ok : BlkOk X.N X.env.scope scope own)
    (hg : ∀ (s : Shared) (H : Hp) (C : Addr) (cl : List (Str × Addr)) (fp : List Addr), PG (X.blk s H scope (compEnvC scope cl C X.env) fp) tg (tgT X.K t)) (ht : ∀ (s : Shared) (H : Hp) (C : Addr) (cl : List (Str × Addr)) (fp : List Addr), PTs (X.blk s H scope (compEnvC scope cl C X.env) fp) ifs (tPT X.K c))
    (he : ∀ (s : Shared) (H : Hp) (C : Addr) (cl : List (Str × Addr)) (fp : List Addr), PE (X.blk s H scope (compEnvC scope cl C X.env) fp) elt (tP X.K f)) (hs : ∀ x, foldedSetIterable iter X.env x = pure x := by intro _; rfl) :
    PPS X (.Assign [.Name y py] (.ListComp elt [⟨tg, iter, ifs, 0⟩] scope pos) spos) (wSetO i (wLc fi t c f (own.map (·.2)))) :=
  (ps_setLc hc hN hy hyl hsw hi ok hg ht he hs).imp fun D σ H ⟨g, M, env, A, s, q, k⟩ => tLc_of hv σ H _ ⟨g, M, env, _, s, q, fun d v H' a b c => by
    obtain ⟨M', s'⟩ := s.setO b c
    exact k.nx _ M' _ H' a s'⟩
end
end Pl
end

section
set_option Elab.async false
set_option linter.all false
set_option maxRecDepth 100000
set_option maxHeartbeats 1000000
set_option autoImplicit false
namespace Pl
open PySem PySem.Spec PyProof.Rows L2
section
variable {X : Cx}
/-! ### name op= e -/
theorem pp_aug {i : Nat} {x : Str} {e : Expr} {f : FE} {op : Operator} {ti : TIp} {φ : Op2} {pos pos' : Pos} (hN : X.N.Nodup) (hi : X.N[i]? = some x) (hx : Loc X.env.scope x) (he : PB X e f) (ho : PIp X op ti) (hφ : OpA X.K ti φ)
    (hf : X.fn x = true ∨ X.env.scope.names.lookup x = some .local := by first | exact .inl rfl | exact .inr rfl | assumption) : PPS X (.AugAssign (.Name x pos') op e pos) (wAug i φ f) :=
  (ps_aug hN hi hx he ho hf).imp fun D σ H ⟨g, M, env, A, s, ⟨d, ed, q⟩, k⟩ => by
    obtain ⟨o, eo, v, ev, r⟩ := s.slot ed
    subst ev
    refine ⟨v, eo, g, M, env, _, s, q, fun d1 v1 H1 q1 g1 r1 => ?_⟩
    have s1 := s.grow g1
    exact hφ g.T M H1 v v1 d d1 _ _ s1.wd (s.wd.rep g1 r).b r1 q1 fun d2 v2 H2 q2 g2 r2 => k.nx _ M _ H2 q2 ((s1.grow g2).setV r2)
theorem a_ipadd {K : PySem.W.Frag} : OpA K (ipI fun i j => i + j) (dInt2 (fun _ _ => True) fun i j => .int (i + j)) := opa_int0 fun _ _ _ _ _ => .int _
theorem a_ipsub {K : PySem.W.Frag} : OpA K (ipI fun i j => i - j) (dInt2 (fun _ _ => True) fun i j => .int (i - j)) := opa_int0 fun _ _ _ _ _ => .int _
/-! ### methods that change an own list -/
def MutA (K : PySem.W.Frag) (r : V → List V → Hp → VK → Prop) (φ : MutL) : Prop :=
  ∀ (tp : Tp) (M : Addr → Prop) (H : Hp) (l : Addr) (us : List V) (a : List D) (Q : VK) (Qd : D → List D → Prop) (ds : List D) (vs : List V), Wd K tp M H → M l → l ≠ tp.t → H l = some (.lst us) → Reps K tp M H us a → Reps K tp M H vs ds → φ a ds Qd →
    (∀ x a' v us', Qd x a' → Rep K tp M (upd H l (.lst us')) v x → Reps K tp M (upd H l (.lst us')) us' a' → Q v (upd H l (.lst us'))) → r (.ref l) vs H Q
section
variable {K : PySem.W.Frag} {T : Tp} {M : Addr → Prop} {H : Hp} {l : Addr} {o : HO}
theorem Rep.updM {v : V} {d : D} (ml : M l) (r : Rep K T M H v d) : Rep K T M (upd H l o) v d := Rep.keep (fun _ _ z => z) (fun a o n h => by rw [upd_ne (fun z => n (by rw [z]; exact ml))]; exact h) d v r
theorem Reps.updM {v : List V} {d : List D} (ml : M l) (r : Reps K T M H v d) : Reps K T M (upd H l o) v d := Reps.keep (fun _ _ z => z) (fun a o n h => by rw [upd_ne (fun z => n (by rw [z]; exact ml))]; exact h) d v r
end
theorem m_append {K : PySem.W.Frag} : MutA K rAppend mAppend := by
  intro tp M H l us a Q Qd ds vs w ml lT h r rs q k
  unfold mAppend at q
  split at q
  · obtain ⟨v, ws, e, r1, r2⟩ := rs.inv_cons
    rw [r2.inv_nil] at e
    subst e
    refine ⟨l, us, v, rfl, rfl, h, by rw [line_eq, r.length]; exact q.1, ?_⟩
    exact k _ _ _ _ q.2 .non ((r.append (.cons r1 .nil)).updM ml)
  · exact q.elim
theorem m_extend {K : PySem.W.Frag} : MutA K rExtend mExtend := by
  intro tp M H l us a Q Qd ds vs w ml lT h r rs q k
  unfold mExtend at q
  split at q
  · obtain ⟨v, ws, e, r1, r2⟩ := rs.inv_cons
    rw [r2.inv_nil] at e
    subst e
    obtain ⟨b, zs, eb, hb, rb⟩ := r1.b.lst
    refine ⟨l, b, us, zs, rfl, by rw [eb], h, hb, by rw [line_eq, r.length, rb.length]; exact q.1, ?_⟩
    exact k _ _ _ _ q.2 .non ((r.append rb).updM ml)
  · exact q.elim
theorem ixD_seq {n : Nat} {i : Int} {j : Nat} (h : ixD n i = some j) : seqIndex? i n = some j ∧ j < n := by
  rw [ixD_eq] at h
  obtain ⟨a, b, _⟩ := ixN_seq h
  exact ⟨a, b⟩
theorem m_popAt {K : PySem.W.Frag} : MutA K rPopAt mPopAt := by
  intro tp M H l us a Q Qd ds vs w ml lT h r rs q k
  unfold mPopAt at q
  split at q
  · obtain ⟨v, ws, e, r1, r2⟩ := rs.inv_cons
    rw [r2.inv_nil] at e
    rw [r1.b.int] at e
    subst e
    obtain ⟨⟨b1, b2⟩, j, x, ej, ex, q⟩ := q
    obtain ⟨y, ey, ry⟩ := r.get ex
    have e2 := (ixD_seq ej).1
    refine ⟨l, us, _, j, y, rfl, rfl, h, b1, b2, by rw [r.length]; exact e2, ey, ?_⟩
    exact k _ _ _ _ q (ry.updM ml) ((r.eraseIdx j).updM ml)
  · exact q.elim
section
variable {i : Nat} {x : Str} {id name : String} {m : Str} {r : V → List V → Hp → VK → Prop} {φ : MutL} {e : Expr} {es : List Expr} {fs : FEs} {apos pos pos' p' : Pos}
theorem tMut_of {K : PySem.W.Frag} (hφ : MutA K r φ) {σ : L2.St} {H : Hp} {g : Gh} {M : Addr → Prop} {env : AEnv} {N : AEnv → D → Prop} {N' : VK} (s : SR K g M σ H env)
    (q : ∃ ds, env[i]? = some (.own (.lst ds)) ∧ fs env fun xs => φ ds xs fun x ds' => N (env.set i (.own (.lst ds'))) x)
    (k : ∀ env' M' H' x v, N env' x → SR K g M' σ H' env' → Rep K g.T M' H' v x → N' v H') : tBM K "list" r (tVar i) (tPA K fs) σ H N' := by
  obtain ⟨ds, e, q⟩ := q
  obtain ⟨o, eo, l, el, ml, lT, h0, us, hl, rs⟩ := s.slot e
  subst el
  refine ⟨_, eo, .inl ⟨rfl, us, .of hl⟩, g, M, env, _, s, q, fun xs vs H1 q1 g1 r1 => ?_⟩
  have s1 := s.grow g1
  refine hφ g.T M H1 l us ds _ _ xs vs s1.wd ml lT (g1.keep _ _ lT hl) (s.wd.reps g1 rs) r1 q1 fun x a' v us' q2 r2 rs2 => ?_
  exact k _ M _ _ _ q2 (s1.mut e eo ⟨us', upd_same, rs2⟩) r2
theorem pp_mut (slot : PySem.Slot "list" m id) (hty : typeOf (.builtin id) = pure (.type "method_descriptor")) (hm : MtM X id r) (hφ : MutA X.K r φ) (hN : X.N[i]? = some x) (hv : Vis X.env.scope x) (ha : PPA X (e :: es) fs)
    (hd : (x == ("__debug__" : Str)) = false := by decide) (hcd : (x == ("__classdict__" : Str)) = false := by decide)
    (hbase : attributeBase (.Name x p') m X.env (eval (.Name x p') X.env) = eval (.Name x p') X.env := by rfl)
    (hfew : ((backTo pos' (starEach (e :: es) X.env)).all (fun x => !x.1) && (backToKw pos' (keywordEach [] X.env)).all (fun x => x.1.isSome)
      && decide ((e :: es).length + ([] : List Keyword).length + (if ([] : List Keyword).isEmpty then 0 else 1) < 30)) = true := by rfl)
    (hline : (apos.endLine == pos'.line) = true := by rfl) (hs : starEach (e :: es) X.env = (false, eval e X.env) :: starEach es X.env := by rfl) (hplain : (backTo pos' (starEach es X.env)).any (·.1) = false := by rfl)
    (hsw : swapsWith (.Call (.Attribute (.Name x p') m apos) (e :: es) [] pos') none pos.line X.env = pure false := by rfl) :
    PPS X (.Expr (.Call (.Attribute (.Name x p') m apos) (e :: es) [] pos') pos) (wMut i φ fs) :=
  (ps_expr (pe_bm PySem.F.plainAttrs_list slot hty hm (pe_var hN hv hd hcd) ha hbase hfew hline hs hplain) hsw).imp fun D σ H ⟨g, M, env, A, s, q, k⟩ =>
    tMut_of hφ s (N := fun env' _ => A.nx env') q fun env' M' H' x v a b c => k.nx env' M' σ H' a b
theorem pp_mutSet {j : Nat} {y : Str} {py : Pos} (hNd : X.N.Nodup) (hj : X.N[j]? = some y) (hy : Loc X.env.scope y) (slot : PySem.Slot "list" m id) (hty : typeOf (.builtin id) = pure (.type "method_descriptor")) (hm : MtM X id r) (hφ : MutA X.K r φ) (hN : X.N[i]? = some x) (hv : Vis X.env.scope x) (ha : PPA X (e :: es) fs)
    (hd : (x == ("__debug__" : Str)) = false := by decide) (hcd : (x == ("__classdict__" : Str)) = false := by decide)
    (hbase : attributeBase (.Name x p') m X.env (eval (.Name x p') X.env) = eval (.Name x p') X.env := by rfl)
    (hfew : ((backTo pos' (starEach (e :: es) X.env)).all (fun x => !x.1) && (backToKw pos' (keywordEach [] X.env)).all (fun x => x.1.isSome)
      && decide ((e :: es).length + ([] : List Keyword).length + (if ([] : List Keyword).isEmpty then 0 else 1) < 30)) = true := by rfl)
    (hline : (apos.endLine == pos'.line) = true := by rfl) (hs : starEach (e :: es) X.env = (false, eval e X.env) :: starEach es X.env := by rfl) (hplain : (backTo pos' (starEach es X.env)).any (·.1) = false := by rfl)
    (hsw : swapsWith (.Call (.Attribute (.Name x p') m apos) (e :: es) [] pos') (some (.Name y py)) pos.line X.env = pure false := by rfl)
    (hf : X.fn y = true ∨ X.env.scope.names.lookup y = some .local := by first | exact .inl rfl | exact .inr rfl | assumption) :
    PPS X (.Assign [.Name y py] (.Call (.Attribute (.Name x p') m apos) (e :: es) [] pos') pos) (wMutSet j i φ fs) :=
  (ps_set hNd hj hy (pe_bm PySem.F.plainAttrs_list slot hty hm (pe_var hN hv hd hcd) ha hbase hfew hline hs hplain) hsw hf).imp fun D σ H ⟨g, M, env, A, s, q, k⟩ =>
    tMut_of hφ s (N := fun env' r => A.nx (env'.set j (.val r))) q fun env' M' H' x v a b c => k.nx _ M' _ H' a (b.setV c)
/-! ### own[k] = e -/
theorem pp_put {k : Expr} {fk fe : FE} (hN : X.N[i]? = some x) (hv : Vis X.env.scope x) (he : PP X e fe) (hk : PP X k fk) (hd : (x == ("__debug__" : Str)) = false := by decide) (hcd : (x == ("__classdict__" : Str)) = false := by decide)
    (ha : ∀ v, assign (.Subscript (.Name x p') k pos') X.env v = (do
      let ov ← holding [v] (eval (.Name x p') X.env)
      let iv ← holding [v, ov] (eval k X.env)
      standAt pos'
      holding [v, ov, iv] (setItem ov iv v)
      release [v, ov, iv] []) := by intro _; rfl)
    (hs : swapsWithSole [.Subscript (.Name x p') k pos'] e pos.line X.env = pure false := by rfl) (hw : swappedStores [.Subscript (.Name x p') k pos'] e X.env = pure none := by rfl)
    (h1 : (assignEach [.Subscript (.Name x p') k pos'] X.env).map (·.2) = [assign (.Subscript (.Name x p') k pos') X.env] := by rfl) :
    PPS X (.Assign [.Subscript (.Name x p') k pos'] e pos) (wPut i fk fe) :=
  (ps_asg he (pg_sub (pe_var hN hv hd hcd) hk set_list ha) hs hw h1).imp fun D σ H ⟨g, M, env, A, s, ⟨ds, ed, q⟩, kk⟩ => ⟨g, M, env, _, s, q, fun x v H1 q1 g1 r1 => by
    have s1 := s.grow g1
    obtain ⟨o, eo, l, el, ml, lT, h0, us, hl, rs⟩ := s1.slot ed
    subst el
    refine ⟨_, eo, g, M, env, _, s1, q1, fun kd kv H2 q2 g2 r2 => ?_⟩
    have s2 := s1.grow g2
    split at q2
    · obtain ⟨j, ej, q2⟩ := q2
      refine ⟨l, us, _, j, rfl, r2.b.int, g2.keep _ _ lT hl, by rw [rs.length, ← ixD_eq]; exact ej, ?_⟩
      refine kk.nx _ M _ _ q2 (s2.mut ed eo ⟨us.set j v, upd_same, ?_⟩)
      exact (((s1.wd.reps g2 rs).set j (s1.wd.rep g2 r1))).updM ml
    · exact q2.elim⟩
end
end
end Pl
end

section
set_option Elab.async false
set_option linter.all false
set_option maxRecDepth 100000
set_option maxHeartbeats 1000000
set_option autoImplicit false
namespace Pl
open PySem PySem.Spec PyProof.Rows L2
/-! ### defs -/
section
variable {P : Program} {w : World} {K : PySem.W.Frag} {mg : Str → Option Value} {base : Heap}
/-- a def of the text, as it stands behind the top -/
structure Fnx (K : PySem.W.Frag) (mg : Str → Option Value) (x : Str) (st : Stmt) : Prop where
  ex : ∃ f fd, FunD K x x (defArgs st) (defBody st) (defScope st) [] [] f fd ∧ mg x = some (.ref f)
/-- a def that keeps its promise, by at most level k -/
structure Kn (P : Program) (w : World) (K : PySem.W.Frag) (mg : Str → Option Value) (base : Heap) (k : Nat) (x : Str) (sp : Sp) : Prop where
  ex : ∃ (f : Addr) (fd : FuncData) (ps : List Str), FnOk P w K mg base CX0 k f fd ps sp ∧ mg x = some (.ref f) ∧ PySem.W.keepIn K (.ref f) = true ∧ Binds K fd ps []
abbrev cxN (P : Program) (w : World) (K : PySem.W.Frag) (mg : Str → Option Value) (base : Heap) (N : List Str) (x : Str) (sc : Scope) (f : Addr) (cdv : Value) (A : Around) (outer : List Env) (s : Shared) (H : Hp) (E : XK) : Cx := (cxOf CX0 P w K mg base N x sc f cdv A outer s H E).nox
theorem Kn.df {k j : Nat} {x : Str} {φ : Fn} {X : Cx} (h : Kn X.prog X.w X.K X.mg X.base k x (spP X.K φ)) (hr : Room j X.A) (hk : k ≤ j) : Df X x φ := by
  obtain ⟨f, fd, ps, F, hm, kp, b⟩ := h.ex
  exact ⟨k, f, fd, ps, F, hr.mono hk, hm, kp, b⟩
theorem sr_start {T : Tp} {M : Addr → Prop} {H : Hp} {vs : List V} {ds : List D} {N : List Str} (wd : Wd K T M H) (r : Reps K T M H vs ds) :
    SR K ⟨T, M, H, wd.mT, wd.md⟩ M (L2.start N vs) H (startE N.length ds) where
  wd := wd
  m0 := fun _ z => z
  mh := fun _ z => .inl z
  gr := fun _ _ _ e => e
  len := by simp [L2.start, startE, r.length]
  sl := fun i s e => by
    unfold startE at e
    rcases Nat.lt_or_ge i ds.length with h | h
    · rw [List.getElem?_append_left (by simpa using h)] at e
      rw [List.getElem?_map, List.getElem?_eq_getElem h] at e
      cases e
      obtain ⟨v, ev, rv⟩ := r.get (List.getElem?_eq_getElem h)
      refine ⟨v, ?_, rv⟩
      have h' : i < vs.length := by rw [r.length]; exact h
      unfold L2.start
      rw [List.getD_eq_getElem?_getD, List.getElem?_append_left (by simpa using h'), List.getElem?_map, ev]
      rfl
    · rw [List.getElem?_append_right (by simpa using h)] at e
      have := List.mem_of_getElem? e
      rw [(List.mem_replicate.mp this).2]
      trivial
  dis := fun i j l d e _ e1 => by
    exfalso
    unfold startE at e1
    have := List.mem_of_getElem? e1
    rcases List.mem_append.mp this with h | h
    · obtain ⟨_, _, z⟩ := List.mem_map.mp h; cases z
    · have := (List.mem_replicate.mp h).2; cases this
theorem kn_of {x : Str} {st : Stmt} {N ps : List Str} {k : Nat} {φ : Fn} {Fb : FS} (F : Fnx K mg x st) (S : FnScope N ps (defScope st))
    (hb : ∀ (kV doc pm : Value) (an : Option Addr) (cdv ct : Value) (us : List Value), us.length = ps.length → bindArgs (PySem.W.fnOf x x (defArgs st) (defBody st) (defScope st) .none kV doc pm an cdv ct) ⟨us, []⟩ = pure (ps.zip us))
    (hlen : ∀ ds Q, φ ds Q → ds.length = ps.length)
    (hbody : ∀ (f : Addr) (cdv : Value) (A : Around) (outer : List Env) (s : Shared) (H : Hp) (E : XK), Room k (A.deeper (envOfC x (defScope st) s.heap.objs.size f cdv)) → PPSs (cxN P w K mg base N x (defScope st) f cdv A outer s H E) (defBody st) Fb)
    (hread : ∀ ds Q, φ ds Q → Fb (AEnds.fn Q) (startE N.length ds)) : Kn P w K mg base (k + 1) x (spP K φ) := by
  obtain ⟨f, fd, F, hm⟩ := F.ex
  refine ⟨f, fd, ps, F.ok S ?_ ?_, hm, F.kp, F.bindsN hb⟩
  · rintro vs H Q E ⟨T, M, ds, Qd, wd, r, q, _⟩
    rw [r.length]
    exact hlen _ _ q
  · rintro cdv A outer s H vs Q E hr ⟨T, M, ds, Qd, wd, r, q, kk⟩
    refine ⟨_, PSs.nox (hbody f cdv A outer s H E hr), ⟨T, M, H, wd.mT, wd.md⟩, M, _, { nx := fun _ => Qd .non, rt := Qd }, sr_start wd r, hread ds Qd q, ?_⟩
    exact ⟨fun env M' σ H' a b => kk _ _ _ a b.grow0 .non, fun d v H' a b c => kk d v H' a b c, fun _ _ _ _ z => z.elim, fun _ _ _ _ z => z.elim⟩
end
end Pl
namespace Pl
open PySem PySem.Spec PyProof.Rows L2
/-- a statement, and what holds behind it -/
theorem ps_cut {X : Cx} {st : Stmt} {t : TS} (I : L2.St → Hp → Prop) (h : PS X st t) : PS X st (fun D σ H => t { D with nx := I } σ H ∧ ∀ σ' H', I σ' H' → D.nx σ' H') := by
  refine ⟨fun pins s σ H D Iv ⟨q, k⟩ => thn (h.run pins s σ H _ Iv q) fun f s' z => ?_⟩
  cases f with
  | next => obtain ⟨σ', H', I', q'⟩ := z; exact ⟨σ', H', I', k _ _ q'⟩
  | ret v => exact z
  | brk => exact z
  | cont => exact z
end Pl
namespace Pl
open PySem PySem.Spec PyProof.Rows L2
/-- the tape in a draw -/
def DrawI (K : PySem.W.Frag) (T : Tp) (H0 H : Hp) : Prop := ∃ (k acc mix : Int) (cells : List Int), H T.t = some (.lst [.ref T.c, .int k, .int acc, .int mix]) ∧ H T.c = some (.lst (cells.map V.int)) ∧ 0 ≤ k ∧ 0 ≤ acc ∧ 0 ≤ mix ∧ ∀ a o, a ≠ T.t → H0 a = some o → H a = some o
/-- a tape is made -/
def spTape (K : PySem.W.Frag) : Sp := fun vs H Q _ => ∃ (a : Addr) (ns : List Int), vs = [.ref a] ∧ SqL K H a (ns.map V.int) ∧
  ∀ (H' : Hp) (T : Tp) (mix : Int), (∀ b o, H b = some o → H' b = some o) → T.c ≠ T.t → H' T.t = some (.lst [.ref T.c, .int 0, .int 0, .int mix]) → H' T.c = some (.lst (ns.map V.int)) → 0 ≤ mix → Q (.ref T.t) H'
def spLaw (K : PySem.W.Frag) : Sp := fun vs H Q _ => ∃ (a : Addr) (ns : List Int), vs = [.ref a] ∧ SqL K H a (ns.map V.int) ∧ ∀ H', Q (.bl true) H'
section
variable {P : Program} {w : World} {K : PySem.W.Frag} {mg : Str → Option Value} {base : Heap}
/-- the law: its tape is made, the rest is read as data -/
theorem law_ok {x : Str} {params : Arguments} {body : List Stmt} {sc : Scope} {dvs : List V} {kws : List (Str × V)} {f : Addr} {fd : FuncData} {N : List Str} {k : Nat} {Fb : FS} (F : FunD K x x params body sc dvs kws f fd) (S : FnScope N ["script"] sc) (hN : 2 ≤ N.length)
    (hbody : ∀ (cdv : Value) (A : Around) (outer : List Env) (s : Shared) (H : Hp) (E : XK), Room k (A.deeper (envOfC x sc s.heap.objs.size f cdv)) →
      PSs (cxN P w K mg base N x sc f cdv A outer s H E) body (tSeq (tAsg (tCall (spTape K) [] E0 (tCons (tVar 0) tNil)) (gName 1)) (tPS K Fb)))
    (hread : Fb AEnds.law (.non :: .val .tape :: List.replicate (N.length - 2) .non)) : FnOk P w K mg base CX0 (k + 1) f fd ["script"] (spLaw K) := by
  refine F.ok S ?_ ?_
  · rintro vs H Q E ⟨a, ns, rfl, _⟩
    rfl
  · rintro cdv A outer s H vs Q E hr ⟨a, ns, rfl, hS, kk⟩
    refine ⟨_, PSs.nox (hbody cdv A outer s H E hr), ?_⟩
    obtain ⟨n, hn⟩ : ∃ n, N.length = n + 2 := ⟨N.length - 2, by omega⟩
    have e0 : L2.start N [V.ref a] = some (.ref a) :: none :: List.replicate n none := by
      unfold L2.start
      rw [hn]
      simp [List.replicate_succ]
    rw [e0]
    refine ⟨_, rfl, a, ns, rfl, hS, fun H' T mix kp ne hT hC m0 => ?_⟩
    refine ⟨⟨T, fun b => b = T.t, H', rfl, fun b e => by rw [e, hT]; simp⟩, fun b => b = T.t, _, AEnds.law, ?_, hread, ⟨fun _ _ _ _ z => z.elim, fun d v H a _ c => ?_, fun _ _ _ _ z => z.elim, fun _ _ _ _ z => z.elim⟩⟩
    · refine ⟨⟨⟨0, 0, mix, ns, hT, hC, ne, by omega, by omega, m0⟩, rfl, fun b e => by rw [e, hT]; simp⟩, fun _ z => z, fun _ z => .inl z, fun _ _ _ e => e, ?_, fun i s e => ?_, fun i j l d e _ e1 => ?_⟩
      · show ((some (V.ref a) :: none :: List.replicate n none).set 1 _).length = _
        simp [hn]
      · match i, e with
        | 0, e => cases e; trivial
        | 1, e => cases e; exact ⟨_, rfl, .tape⟩
        | i + 2, e =>
          have e : (List.replicate (N.length - 2) Slot.non)[i]? = some s := e
          rw [(List.mem_replicate.mp (List.mem_of_getElem? e)).2]
          trivial
      · match i, e1 with
        | 0, e1 => cases e1
        | 1, e1 => cases e1
        | i + 2, e1 =>
          have e1 : (List.replicate (N.length - 2) Slot.non)[i]? = some (.own d) := e1
          have := (List.mem_replicate.mp (List.mem_of_getElem? e1)).2
          cases this
    · have a : d = .bl true := a
      subst a
      cases c
      exact kk _
end
end Pl
end

section
set_option Elab.async false
set_option linter.all false
set_option maxRecDepth 100000
set_option maxHeartbeats 1000000
set_option autoImplicit false
namespace Pl
open PySem PySem.Spec PyProof.Rows L2
/-! ### isinstance of a built-in type -/
theorem kitB_all : ∀ T ∈ ["bool", "int", "str", "tuple", "list"], ∀ t ∈ ["NoneType", "bool", "int", "str", "tuple", "list", "dict"], kitB t T = some (decide (t = T) || (decide (t = "bool") && decide (T = "int"))) := by decide +kernel
theorem BRep.ty {K : PySem.W.Frag} {T : Tp} {M : Addr → Prop} {H : Hp} {v : V} {d : D} {t : String} (r : BRep K T M H v d) (e : tyName d = some t) : TyX K H v (.type t) ∧ t ∈ ["NoneType", "bool", "int", "str", "tuple", "list", "dict"] := by
  rcases r with r | ⟨l, e1, _, _, r⟩
  · cases r <;> (unfold tyName at e) <;> (cases e) <;> refine ⟨?_, by decide⟩
    · exact .base .non
    · exact .base (.bl _)
    · exact .base (.int _)
    · exact .base (.str _)
    · rename_i h _ _; exact .base (.tup h)
    · rename_i h _
      rcases h with (h | ⟨o, h⟩) | ⟨o, its, n, hk, hc, _⟩
      · cases h
      · cases h
      · exact .kTuple hk hc
    · rename_i h _ _; exact .base (.lst h)
    · rename_i h _ _ _; exact .base (.dK h)
    · rename_i h _ _ _; exact .base (.dT h)
  · subst e1
    cases d with
    | lst ds => obtain ⟨vs, h, _⟩ := r; unfold tyName at e; cases e; exact ⟨.base (.lst h), by decide⟩
    | dk ks ds => obtain ⟨vs, h, _⟩ := r; unfold tyName at e; cases e; exact ⟨.base (.dK h), by decide⟩
    | dt ks ds => obtain ⟨vs, h, _⟩ := r; unfold tyName at e; cases e; exact ⟨.base (.dT h), by decide⟩
    | obj c ns ds => unfold tyName at e; cases e
    | _ => exact r.elim
section
variable {X : Cx} {e : Expr} {f : FE} {p p2 pos : Pos}
theorem pp_isi {T : String} {y : Str} (hT : T ∈ ["bool", "int", "str", "tuple", "list"]) (hg : Gl X "isinstance") (hm : X.mg "isinstance" = none) (hg2 : Gl X y) (hm2 : X.mg y = none) (hv2 : bootBuiltins y = some (.type T)) (ha : PB X e f)
    (hn : y ≠ "__name__" := by decide) (hd : (y == ("__debug__" : Str)) = false := by decide)
    (hs : starEach [e, .Name y p2] X.env = (false, eval e X.env) :: starEach [.Name y p2] X.env := by rfl) (hs2 : starEach [.Name y p2] X.env = (false, eval (.Name y p2) X.env) :: starEach [] X.env := by rfl)
    (hpl : (backTo pos (starEach [.Name y p2] X.env)).any (·.1) = false := by rfl) :
    PP X (.Call (.Name "isinstance" p) [e, .Name y p2] [] pos) (wIsi T f) :=
  PE.imp (pe_callB call_isi hg hm (by decide +kernel) (pa_cons ha (pa_cons (pe_bltn (v := .ty T) hg2 hm2 hv2 rfl hn hd) pa_nil hs2) hs) (by decide) (by decide) hs hpl) fun σ H Q ⟨g, M, env, Qd, s, q, k⟩ => ⟨g, M, env, _, s, q, fun d v H1 q1 g1 r1 => by
    split at q1
    · rename_i t et
      obtain ⟨ty, mt⟩ := r1.ty et
      exact ⟨v, .ty T, _, _, _, rfl, .ty T, ty, kit_ty (kitB_all T hT _ mt), k _ _ _ q1 g1 (.bl _)⟩
    · exact q1.elim⟩
end
/-! ### several names at once -/
section
variable {X : Cx}
theorem setAll2 {K : PySem.W.Frag} {g : Gh} {M : Addr → Prop} {H : Hp} {σ : L2.St} {env e : AEnv} {i j : Nat} {v w : V} {ds : List D} (s : SR K g M σ H env) (r : Reps K g.T M H [v, w] ds) (h : setAll [i, j] ds env = some e) : SR K g M ((σ.set i (some v)).set j (some w)) H e := by
  cases r with
  | cons r1 r =>
    cases r with
    | cons r2 r =>
      cases r
      cases h
      exact (s.setV r1).setV r2
theorem pp_par2 {i0 i1 : Nat} {x y : Str} {a b : Expr} {fs : FEs} {px py pt pos : Pos} {kt k2 pt2} (hc : X.calm = true) (hN : X.N.Nodup) (hi : X.N[i0]? = some x) (hj : X.N[i1]? = some y) (hij : i0 ≠ i1)
    (hx : X.env.scope.names.lookup x = some .local) (hy : X.env.scope.names.lookup y = some .local) (ha : PPA X [a, b] fs)
    (hw : swappedStores [.Tuple [.Name x px, .Name y py] kt pt] (.Tuple [a, b] k2 pt2) X.env = pure (some [x, y]))
    (hs : swapsWithSole [.Tuple [.Name x px, .Name y py] kt pt] (.Tuple [a, b] k2 pt2) pos.line X.env = pure false := by rfl) :
    PPS X (.Assign [.Tuple [.Name x px, .Name y py] kt pt] (.Tuple [a, b] k2 pt2) pos) (wPar [i0, i1] fs) :=
  (ps_par hc hN hi hj hij hx hy ha hw hs).imp fun D σ H ⟨g, M, env, A, s, q, k⟩ => ⟨g, M, env, _, s, q, fun ds vs H' ⟨e, h, a⟩ b c => by
    obtain ⟨d1, d2, rfl⟩ : ∃ d1 d2, ds = [d1, d2] := by
      match ds, h with
      | [d1, d2], _ => exact ⟨_, _, rfl⟩
      | [], h => cases h
      | [_], h => cases h
      | _ :: _ :: _ :: _, h => cases h
    obtain ⟨v, us, rfl, r1, r⟩ := c.inv_cons
    obtain ⟨w, us, rfl, r2, r⟩ := r.inv_cons
    cases r.inv_nil
    exact ⟨v, w, rfl, k.nx e M _ H' a (setAll2 (s.grow b) (.cons r1 (.cons r2 .nil)) h)⟩⟩
/-- a, b, c = .. with plain local names -/
def tPar3 (i j l : Nat) (ta : TA) : TS := fun D σ H => ta σ H fun vs H1 => ∃ v w u, vs = [v, w, u] ∧ D.nx (((σ.set i (some v)).set j (some w)).set l (some u)) H1
theorem ps_par3 {i j l : Nat} {x y z : Str} {a b c : Expr} {ta : TA} {px py pz pt pos : Pos} {kt k2 pt2} (hc : X.calm = true) (hN : X.N.Nodup) (hi : X.N[i]? = some x) (hj : X.N[j]? = some y) (hl : X.N[l]? = some z) (hij : i ≠ j ∧ i ≠ l ∧ j ≠ l)
    (hx : X.env.scope.names.lookup x = some .local) (hy : X.env.scope.names.lookup y = some .local) (hz : X.env.scope.names.lookup z = some .local) (ha : PA X [a, b, c] ta)
    (hw : swappedStores [.Tuple [.Name x px, .Name y py, .Name z pz] kt pt] (.Tuple [a, b, c] k2 pt2) X.env = pure (some [x, y, z]))
    (hs : swapsWithSole [.Tuple [.Name x px, .Name y py, .Name z pz] kt pt] (.Tuple [a, b, c] k2 pt2) pos.line X.env = pure false := by rfl) :
    PS X (.Assign [.Tuple [.Name x px, .Name y py, .Name z pz] kt pt] (.Tuple [a, b, c] k2 pt2) pos) (tPar3 i j l ta) := by
  refine ⟨fun pins s σ H D I h => ?_⟩
  rw [exec_Assign_arm]
  refine wpAny_bind (wpAny_standAt ?_)
  rw [hs]
  refine wpAny_bind (wpAny_pure ?_)
  rw [if_neg (by decide)]
  refine wpAny_bind (Tuple_ (thn (ha.run _ pins s σ H _ I h) fun us s1 ⟨vs, H1, I1, r1, q1⟩ => ?_))
  obtain ⟨v, w, u, e1, q1⟩ := q1
  subst e1
  obtain ⟨u1, u2, u3, rfl, rv, rw', ru⟩ : ∃ u1 u2 u3, us = [u1, u2, u3] ∧ RelV v u1 ∧ RelV w u2 ∧ RelV u u3 := by
    cases r1 with
    | cons p q =>
      cases q with
      | cons p' q' =>
        cases q' with
        | cons p'' q'' =>
          cases q''
          exact ⟨_, _, _, rfl, p, p', p''⟩
  refine wpAny_newObj_type ?_ (by show 3 ≤ sizeLine; decide)
  have I2 : Inv X pins σ H1 { s1 with heap := s1.heap.push { cls := .type "tuple", data := .seq [u1, u2, u3].toArray } } := I1.kept (t' := s1.toks) fun b o e => Heap.get?_push_of_some _ e
  rw [hw]
  refine wpAny_bind (wpAny_pure ?_)
  show wpAny (model X.prog X.w) X.A (do rule "assign.swapped-stores"; let items ← unpackItems (.ref s1.heap.objs.size) 3 none; assignInOrder [fun v => bindName X.env z v, fun v => bindName X.env y v, fun v => bindName X.env x v] items.reverse; pure Flow.next) _ _ _
  refine wpAny_bind (wpAny_rule (wpAny_bind (unpackItems_tuple (items := #[u1, u2, u3]) (I.ok.hd hc) (IsTup.new s1.heap _) fun h' hx' => ?_)))
  have I3 := I2.kept (h' := h') (t' := s1.toks) fun b o e => hx' b o (Nat.ne_of_lt (Heap.lt_size e)) e
  show wpAny _ _ (assignInOrder [fun v => bindName X.env z v, fun v => bindName X.env y v, fun v => bindName X.env x v] [u3, u2, u1] >>= fun _ => pure Flow.next) _ _ _
  refine wpAny_bind (assignInOrder_cons (wpAny_bindName (store_ok I3 hN hl (.inl hz) ru (fun s2 I4 => ?_) (.inr hz))))
  refine assignInOrder_cons (wpAny_bindName (store_ok I4 hN hj (.inl hy) rw' (fun s3 I5 => ?_) (.inr hy)))
  refine assignInOrder_cons (wpAny_bindName (store_ok I5 hN hi (.inl hx) rv (fun s4 I6 => assignInOrder_nil (wpAny_pure ?_)) (.inr hx)))
  have e : ((σ.set l (some u)).set j (some w)).set i (some v) = ((σ.set i (some v)).set j (some w)).set l (some u) := by
    rw [List.set_comm _ _ (Ne.symm hij.2.2), List.set_comm _ _ (Ne.symm hij.2.1), List.set_comm _ _ (Ne.symm hij.1)]
  rw [e] at I6
  exact ⟨_, H1, I6, q1⟩
theorem pp_par3 {i0 i1 i2 : Nat} {x y z : Str} {a b c : Expr} {fs : FEs} {px py pz pt pos : Pos} {kt k2 pt2} (hc : X.calm = true) (hN : X.N.Nodup) (hi : X.N[i0]? = some x) (hj : X.N[i1]? = some y) (hl : X.N[i2]? = some z) (hij : i0 ≠ i1 ∧ i0 ≠ i2 ∧ i1 ≠ i2)
    (hx : X.env.scope.names.lookup x = some .local) (hy : X.env.scope.names.lookup y = some .local) (hz : X.env.scope.names.lookup z = some .local) (ha : PPA X [a, b, c] fs)
    (hw : swappedStores [.Tuple [.Name x px, .Name y py, .Name z pz] kt pt] (.Tuple [a, b, c] k2 pt2) X.env = pure (some [x, y, z]))
    (hs : swapsWithSole [.Tuple [.Name x px, .Name y py, .Name z pz] kt pt] (.Tuple [a, b, c] k2 pt2) pos.line X.env = pure false := by rfl) :
    PPS X (.Assign [.Tuple [.Name x px, .Name y py, .Name z pz] kt pt] (.Tuple [a, b, c] k2 pt2) pos) (wPar [i0, i1, i2] fs) :=
  (ps_par3 hc hN hi hj hl hij hx hy hz ha hw hs).imp fun D σ H ⟨g, M, env, A, s, q, k⟩ => ⟨g, M, env, _, s, q, fun ds vs H' ⟨e, h, a⟩ b c => by
    obtain ⟨d1, d2, d3, rfl⟩ : ∃ d1 d2 d3, ds = [d1, d2, d3] := by
      match ds, h with
      | [d1, d2, d3], _ => exact ⟨_, _, _, rfl⟩
      | [], h => cases h
      | [_], h => cases h
      | [_, _], h => cases h
      | _ :: _ :: _ :: _ :: _, h => cases h
    obtain ⟨v, us, rfl, r1, r⟩ := c.inv_cons
    obtain ⟨w, us, rfl, r2, r⟩ := r.inv_cons
    obtain ⟨u, us, rfl, r3, r⟩ := r.inv_cons
    cases r.inv_nil
    cases h
    exact ⟨v, w, u, rfl, k.nx _ M _ H' a ((((s.grow b).setV r1).setV r2).setV r3)⟩⟩
theorem pp_par3o {i0 i1 i2 : Nat} {x y z : Str} {a b c : Expr} {fa fb fc : FE} {px py pz pt pos : Pos} {kt k2 pt2} (hc : X.calm = true) (hN : X.N.Nodup) (hi : X.N[i0]? = some x) (hj : X.N[i1]? = some y) (hl : X.N[i2]? = some z) (hij : i0 ≠ i1 ∧ i0 ≠ i2 ∧ i1 ≠ i2)
    (hx : X.env.scope.names.lookup x = some .local) (hy : X.env.scope.names.lookup y = some .local) (hz : X.env.scope.names.lookup z = some .local) (ha : PP X a fa) (hb : PP X b fb) (hcc : PF X c fc)
    (hw : swappedStores [.Tuple [.Name x px, .Name y py, .Name z pz] kt pt] (.Tuple [a, b, c] k2 pt2) X.env = pure (some [x, y, z]))
    (hs : swapsWithSole [.Tuple [.Name x px, .Name y py, .Name z pz] kt pt] (.Tuple [a, b, c] k2 pt2) pos.line X.env = pure false := by rfl)
    (s1 : starEach [a, b, c] X.env = (false, eval a X.env) :: starEach [b, c] X.env := by rfl) (s2 : starEach [b, c] X.env = (false, eval b X.env) :: starEach [c] X.env := by rfl) (s3 : starEach [c] X.env = (false, eval c X.env) :: starEach [] X.env := by rfl) :
    PPS X (.Assign [.Tuple [.Name x px, .Name y py, .Name z pz] kt pt] (.Tuple [a, b, c] k2 pt2) pos) (wPar3O i0 i1 i2 fa fb fc) :=
  (ps_par3 hc hN hi hj hl hij hx hy hz (pa_cons ha (pa_cons hb (pa_cons hcc pa_nil s3) s2) s1) hw hs).imp fun D σ H ⟨g, M, env, A, s, q, k⟩ =>
    ⟨g, M, env, _, s, q, fun x v H1 q1 g1 r1 => ⟨g, M, env, _, s.grow g1, q1, fun y w H2 q2 g2 r2 => ⟨g, M, env, _, (s.grow g1).grow g2, q2, fun z u H3 q3 g3 r3 => by
      obtain ⟨M', s'⟩ := ((((s.grow g1).grow g2).setV (i := i0) ((s.grow g1).wd.rep g2 r1)).setV (i := i1) r2).setO (i := i2) g3 r3
      exact ⟨v, w, u, rfl, k.nx _ M' _ H3 q3 s'⟩⟩⟩⟩
end
end Pl
end

section
set_option Elab.async false
set_option linter.all false
set_option maxRecDepth 100000
set_option maxHeartbeats 1000000
set_option autoImplicit false
namespace Pl
open PySem PySem.Spec PyProof.Rows L2 He
/-! ### the head's facts: any that can be read off K, and the defs -/
abbrev KB := PySem.W.Frag → Bool
def obsB (bs : List KB) (fn : List DefD) (K : PySem.W.Frag) : AlD := ((bs.all fun f => f K) && fn.all fun d => d.ok K, fn.map fun d => fnW K d.at_)
def SaysB (bs : List KB) (fn : List DefD) (K : PySem.W.Frag) : Prop := obsB bs fn K = valD fn
def obsBG (n : Nat) (bs : List KB) (fn : List DefD) (g : Addr → Option Obj) : AlD := obsB bs fn (frG g (asD g n))
def hookB (n : Nat) (bs : List KB) (fn : List DefD) : PySem.W.Hook where
  α := AlD
  obs := fun s => obsBG n bs fn s.heap.get?
  val := fun _ => valD fn
  says := fun _ h => ∃ K : PySem.W.Frag, K.In h ∧ SaysB bs fn K
  of := fun _ _ e => ⟨_, frG_in, e⟩
  keeps := fun _ _ _ ⟨K, hK, c⟩ k => ⟨K, PySem.W.Frag.In.keeps hK k, c⟩
theorem obsBG_eq {n : Nat} {bs : List KB} {fn : List DefD} {g : Addr → Option Obj} {s : Shared} (h : ∀ a, g a = s.heap.get? a) : obsBG n bs fn g = (hookB n bs fn).obs s := by
  have e : g = s.heap.get? := funext h
  rw [e] <;> rfl
section
variable {bs : List KB} {fn : List DefD} {K : PySem.W.Frag}
theorem SaysB.fact (c : SaysB bs fn K) (i : Nat) {f : KB} (h : bs[i]? = some f := by rfl) : f K = true := by
  have c1 := (ba (show ((bs.all fun f => f K) && fn.all fun d => d.ok K) = true from congrArg (fun z : AlD => z.1) c)).1
  exact List.all_eq_true.mp c1 f (List.mem_of_getElem? h)
theorem SaysB.def_ (c : SaysB bs fn K) (i : Nat) {d : DefD} (h : fn[i]? = some d := by rfl) : ∃ fd, FunD K d.name d.qual d.params d.body d.scope (d.dvs K) (d.kws K) (fAd K d.at_) fd := by
  have c2 := (ba (show ((bs.all fun f => f K) && fn.all fun d => d.ok K) = true from congrArg (fun z : AlD => z.1) c)).2
  have e : fn.map (fun d => fnW K d.at_) = fn.map DefD.val := congrArg (fun z : AlD => z.2) c
  have e2 : (fn.map fun d => fnW K d.at_)[i]? = (fn.map DefD.val)[i]? := by rw [e]
  rw [List.getElem?_map, List.getElem?_map, h] at e2
  exact DefD.funD (Option.some.inj e2) (List.all_eq_true.mp c2 d (List.mem_of_getElem? h))
end
/-- a def of the module -/
def dOf (x : Str) (st : Stmt) : DefD := ⟨(x, none), x, x, defArgs st, defBody st, defScope st, [], []⟩
/-- a method -/
def mOf (c m q : Str) (st : Stmt) : DefD := ⟨(c, some m), m, q, defArgs st, defBody st, defScope st, [], []⟩
/-- the module's name x stands for an object -/
def kGlo (x : Str) : KB := fun K => (Fa.glo x).ok K
/-- .. is free -/
def kFree (x : Str) : KB := fun K => (Fa.free x).ok K
/-- .. is a built-in function -/
def kBlt (x : Str) (b : String) : KB := fun K => eqO (PySem.W.nsIn K mainGlobals x) (some (some (.builtin b)))
/-- .. is a tuple of these -/
def kTup (x : Str) (vs : List Dv) : KB := fun K => (Fa.glo x).ok K && tupB K x vs
section
variable {K : PySem.W.Frag} {h : Heap} {mg : Str → Option Value} {bs : List KB} {fn : List DefD}
theorem fnx_of (X : K.In h) (G : h.Ns mainGlobals mg) (c : SaysB bs fn K) (i j : Nat) {x : Str} {st : Stmt} (e1 : fn[i]? = some (dOf x st) := by rfl) (e2 : bs[j]? = some (kGlo x) := by rfl) : Fnx K mg x st := by
  obtain ⟨fd, F⟩ := c.def_ i e1
  exact ⟨_, fd, F, glo_ok X G (c.fact j e2)⟩
theorem free_of (X : K.In h) (G : h.Ns mainGlobals mg) (c : SaysB bs fn K) (j : Nat) {x : Str} (e2 : bs[j]? = some (kFree x) := by rfl) : mg x = none := free_ok X G (c.fact j e2)
theorem blt_of (X : K.In h) (G : h.Ns mainGlobals mg) (c : SaysB bs fn K) (j : Nat) {x : Str} {b : String} (e2 : bs[j]? = some (kBlt x b) := by rfl) : mg x = some (.builtin b) := PySem.W.mg_of X G (eqO_ok (c.fact j e2))
/-- a module's constant as data -/
structure Cst (K : PySem.W.Frag) (mg : Str → Option Value) (x : Str) (d : D) : Prop where
  ex : ∃ a, mg x = some (.ref a) ∧ ∀ T M H, Rep K T M H (.ref a) d
def ofDv : Dv → D
  | .non => .non
  | .bl b => .bl b
  | .int i => .int i
  | .str x => .str x
  | _ => .non
def flatDv : Dv → Bool
  | .non => true
  | .bl _ => true
  | .int _ => true
  | .str _ => true
  | _ => false
theorem cst_of (X : K.In h) (G : h.Ns mainGlobals mg) (c : SaysB bs fn K) (j : Nat) {x : Str} {vs : List Dv} (e2 : bs[j]? = some (kTup x vs) := by rfl) (hf : vs.all flatDv = true := by rfl) : Cst K mg x (.tup (vs.map ofDv)) := by
  obtain ⟨h1, h2⟩ := ba (show ((Fa.glo x).ok K && tupB K x vs) = true from c.fact j e2)
  refine ⟨_, glo_ok X G h1, fun T M H => .wtup (tupB_ok h2 _) ?_⟩
  clear h2 e2
  induction vs with
  | nil => exact .nil
  | cons v vs ih =>
    rw [List.all_cons, Bool.and_eq_true] at hf
    refine .cons ?_ (ih hf.2)
    cases v with
    | non => exact .non
    | bl b => exact .bl b
    | int i => exact .int i
    | str x => exact .str x
    | _ => cases hf.1
end
theorem pp_cst {X : Cx} {x : Str} {d : D} {pos : Pos} (c : Cst X.K X.mg x d) (hg : Gl X x) (hd : (x == ("__debug__" : Str)) = false := by decide) : PP X (.Name x pos) (wC d) := by
  obtain ⟨a, hm, r⟩ := c.ex
  exact pp_glob (v := .ref a) hg hm rfl r hd
end Pl
end

section
set_option Elab.async false
set_option linter.all false
set_option maxRecDepth 100000
set_option maxHeartbeats 1000000
set_option autoImplicit false
namespace Pl
open PySem PySem.Spec PyProof.Rows L2 RZ
/-! more of what is walked: pairs, counted, backwards -/
section
variable {K : PySem.W.Frag} {T : Tp} {M M' : Addr → Prop} {H H1 : Hp}
theorem it_down {i j : Int} : ItOk K T M (Itc i (-1) (i - j).toNat) (rngDn i (i - j).toNat) H1 := by
  intro M' n H hM w kp
  have hl : (rngDn i (i - j).toNat).length = (i - j).toNat := by simp [rngDn]
  rw [hl]
  refine ⟨fun lt => ⟨lt, fun x H' y => ?_⟩, fun ge => ge⟩
  obtain ⟨e, y⟩ := y
  subst e y
  refine ⟨.refl w, .int (i - n), ?_, ?_⟩
  · simp [rngDn, lt]
  · rw [show i + (n : Int) * (-1) = i - n by omega]; exact .int _
theorem new_pair {H : Hp} {T' : Addr} {x y : V} {dx dy : D} (w : Wd K T M H) (hT : H T' = none) (rx : Rep K T M H x dx) (ry : Rep K T M H y dy) :
    Grow K T M H (upd H T' (.tup [x, y])) ∧ Rep K T M (upd H T' (.tup [x, y])) (.ref T') (.tup [dx, dy]) := by
  have g : Grow K T M H (upd H T' (.tup [x, y])) := .new w hT
  exact ⟨g, .tup upd_same (w.fresh hT) (.cons (w.rep g rx) (.cons (w.rep g ry) .nil))⟩
theorem it_rev {a : Addr} {vs : List V} {ds : List D} (h : H1 a = some (.lst vs)) (n : ¬ M a) (r : Reps K T M H1 vs ds) : ItOk K T M (Itv K a vs.length) ds.reverse H1 := by
  intro M' i H hM w kp
  have h2 := kp a _ n h
  have r2 := r.later hM kp
  have hl := r.length
  rw [List.length_reverse]
  refine ⟨fun lt => ?_, fun ge => by show vs.length ≤ i; omega⟩
  have e : ds[vs.length - 1 - i]? = some (ds[vs.length - 1 - i]'(by omega)) := List.getElem?_eq_getElem _
  obtain ⟨v, ev, rv⟩ := r2.get e
  refine ⟨⟨by omega, vs, v, .of h2, ev⟩, fun x H' y => ?_⟩
  obtain ⟨e', y⟩ := y
  subst e'
  have z := y vs (.of h2)
  rw [ev] at z
  cases z
  refine ⟨.refl w, _, ?_, rv⟩
  rw [List.getElem?_reverse lt, ← e, hl]
theorem it_enum {a : Addr} {vs : List V} {ds : List D} (h : H1 a = some (.lst vs)) (n : ¬ M a) (r : Reps K T M H1 vs ds) : ItOk K T M (Ite K a) (enumD ds) H1 := by
  intro M' i H hM w kp
  have h2 := kp a _ n h
  have r2 := r.later hM kp
  have hl : (enumD ds).length = ds.length := by simp [enumD]
  rw [hl]
  refine ⟨fun lt => ?_, fun ge => ⟨vs, .of h2, by rw [r.length]; exact ge⟩⟩
  have e : ds[i]? = some ds[i] := List.getElem?_eq_getElem lt
  obtain ⟨v, ev, rv⟩ := r2.get e
  refine ⟨⟨vs, v, .of h2, ev⟩, fun x H' y => ?_⟩
  obtain ⟨T', x', e1, e2, e3, y⟩ := y
  subst e1 e3
  have z := y vs (.of h2)
  rw [ev] at z
  cases z
  obtain ⟨g, rp⟩ := new_pair w e2 (.int (i : Nat)) rv
  exact ⟨g, _, by simp [enumD, e], rp⟩
theorem zipD_get {xs ys : List D} {i : Nat} {x y : D} (h1 : xs[i]? = some x) (h2 : ys[i]? = some y) : (zipD xs ys)[i]? = some (.tup [x, y]) := by simp [zipD, List.getElem?_zipWith, h1, h2]
theorem it_zip {a b : Addr} {vs us : List V} {ds es : List D} (h : H1 a = some (.lst vs)) (n : ¬ M a) (r : Reps K T M H1 vs ds) (h' : H1 b = some (.lst us)) (n' : ¬ M b) (r' : Reps K T M H1 us es) : ItOk K T M (Itz K a b) (zipD ds es) H1 := by
  intro M' i H hM w kp
  have h2 := kp a _ n h
  have r2 := r.later hM kp
  have h2' := kp b _ n' h'
  have r2' := r'.later hM kp
  have hl : (zipD ds es).length = min ds.length es.length := by simp [zipD]
  rw [hl]
  refine ⟨fun lt => ?_, fun ge => ⟨vs, us, .of h2, .of h2', by rw [r.length, r'.length]; omega⟩⟩
  have e : ds[i]? = some (ds[i]'(by omega)) := List.getElem?_eq_getElem _
  have e' : es[i]? = some (es[i]'(by omega)) := List.getElem?_eq_getElem _
  obtain ⟨v, ev, rv⟩ := r2.get e
  obtain ⟨u, eu, ru⟩ := r2'.get e'
  refine ⟨⟨vs, us, v, u, .of h2, .of h2', ev, eu⟩, fun x H' y => ?_⟩
  obtain ⟨T', x', y', e1, e2, e3, y1, y2⟩ := y
  subst e1 e3
  have z1 := y1 vs (.of h2)
  have z2 := y2 us (.of h2')
  rw [ev] at z1
  rw [eu] at z2
  cases z1
  cases z2
  obtain ⟨g, rp⟩ := new_pair w e2 rv ru
  exact ⟨g, _, zipD_get e e', rp⟩
theorem it_zipT {a b : Addr} {vs us : List V} {ds es : List D} (hs : ∀ H, (∀ a o, ¬ M a → H1 a = some o → H a = some o) → SqT K H a vs) (r : Reps K T M H1 vs ds) (hs' : ∀ H, (∀ a o, ¬ M a → H1 a = some o → H a = some o) → SqT K H b us) (r' : Reps K T M H1 us es) : ItOk K T M (ItzT K a b) (zipD ds es) H1 := by
  intro M' i H hM w kp
  have h2 := hs H kp
  have r2 := r.later hM kp
  have h2' := hs' H kp
  have r2' := r'.later hM kp
  have hl : (zipD ds es).length = min ds.length es.length := by simp [zipD]
  rw [hl]
  refine ⟨fun lt => ?_, fun ge => ⟨vs, us, h2, h2', by rw [r.length, r'.length]; omega⟩⟩
  have e : ds[i]? = some (ds[i]'(by omega)) := List.getElem?_eq_getElem _
  have e' : es[i]? = some (es[i]'(by omega)) := List.getElem?_eq_getElem _
  obtain ⟨v, ev, rv⟩ := r2.get e
  obtain ⟨u, eu, ru⟩ := r2'.get e'
  refine ⟨⟨vs, us, v, u, h2, h2', ev, eu⟩, fun x H' y => ?_⟩
  obtain ⟨T', x', y', e1, e2, e3, y1, y2⟩ := y
  subst e1 e3
  have z1 := y1 vs h2
  have z2 := y2 us h2'
  rw [ev] at z1
  rw [eu] at z2
  cases z1
  cases z2
  obtain ⟨g, rp⟩ := new_pair w e2 rv ru
  exact ⟨g, _, zipD_get e e', rp⟩
end
section
variable {X : Cx}
theorem ppi_down {tg a b c : Expr} {fs : FEs} {p pos : Pos} (hg : Gl X "range") (hm : X.mg "range" = none) (ha : PPA X [a, b, c] fs) (hs : starEach [a, b, c] X.env = (false, eval a X.env) :: starEach [b, c] X.env := by rfl)
    (hpl : (backTo pos (starEach [b, c] X.env)).any (·.1) = false := by rfl) : PPI X tg (.Call (.Name "range" p) [a, b, c] [] pos) (wRngDown fs) :=
  PI.imp (pi_range3 hg hm ha hs hpl) fun σ H R ⟨g, M, env, Qd, s, q, k⟩ => ⟨g, M, env, _, s, q, fun ds vs H1 q1 g1 r1 => by
    split at q1
    · obtain ⟨v, us, e, r, r2⟩ := r1.inv_cons
      obtain ⟨v', us', e', r', r2'⟩ := r2.inv_cons
      obtain ⟨v'', us'', e'', r'', r2''⟩ := r2'.inv_cons
      rw [r2''.inv_nil] at e''
      rw [e', e'', r.b.int, r'.b.int, r''.b.int] at e
      exact ⟨_, _, _, _, e, .neg q1.1.1 q1.1.2.1 q1.1.2.2.1 q1.1.2.2.2, k _ _ _ q1.2 g1 it_down⟩
    · exact q1.elim⟩
theorem ppi_reversed {tg a : Expr} {fs : FEs} {p pos : Pos} (hg : Gl X "reversed") (hm : X.mg "reversed" = none) (ha : PPA X [a] fs) (hs : starEach [a] X.env = [(false, eval a X.env)] := by rfl) : PPI X tg (.Call (.Name "reversed" p) [a] [] pos) (wRev fs) :=
  PI.imp (pi_reversed hg hm ha hs) fun σ H R ⟨g, M, env, Qd, s, q, k⟩ => ⟨g, M, env, _, s, q, fun ds vs H1 q1 g1 r1 => by
    split at q1
    · obtain ⟨v, us, e, r, r2⟩ := r1.inv_cons
      rw [r2.inv_nil] at e
      subst e
      cases r with
      | lst h n rs => exact ⟨_, _, rfl, .of h, k _ _ _ q1 g1 (it_rev h n rs)⟩
    · exact q1.elim⟩
theorem ppi_enum {a : Expr} {fs : FEs} {p pos tpos : Pos} {elts : List Expr} {kk : Nat} (hg : Gl X "enumerate") (hm : X.mg "enumerate" = none) (ha : PPA X [a] fs) (hs : starEach [a] X.env = [(false, eval a X.env)] := by rfl) : PPI X (.Tuple elts kk tpos) (.Call (.Name "enumerate" p) [a] [] pos) (wEnum fs) :=
  PI.imp (pi_enum hg hm ha hs) fun σ H R ⟨g, M, env, Qd, s, q, k⟩ => ⟨g, M, env, _, s, q, fun ds vs H1 q1 g1 r1 => by
    split at q1
    · obtain ⟨v, us, e, r, r2⟩ := r1.inv_cons
      rw [r2.inv_nil] at e
      subst e
      cases r with
      | lst h n rs => exact ⟨_, _, rfl, .of h, k _ _ _ q1 g1 (it_enum h n rs)⟩
    · exact q1.elim⟩
theorem ppi_zip {a b : Expr} {fs : FEs} {p pos tpos : Pos} {elts : List Expr} {kk : Nat} (hg : Gl X "zip") (hm : X.mg "zip" = none) (ha : PPA X [a, b] fs) (hs : starEach [a, b] X.env = (false, eval a X.env) :: starEach [b] X.env := by rfl)
    (hpl : (backTo pos (starEach [b] X.env)).any (·.1) = false := by rfl) : PPI X (.Tuple elts kk tpos) (.Call (.Name "zip" p) [a, b] [] pos) (wZip fs) :=
  PI.imp (pi_zipA hg hm ha hs hpl) fun σ H R ⟨g, M, env, Qd, s, q, k⟩ => ⟨g, M, env, _, s, q, fun ds vs H1 q1 g1 r1 => by
    split at q1
    · obtain ⟨v, us, e, r, r2⟩ := r1.inv_cons
      obtain ⟨v', us', e', r', r2'⟩ := r2.inv_cons
      rw [r2'.inv_nil] at e'
      subst e' e
      cases r with
      | lst h n rs => cases r' with
        | lst h' n' rs' => exact ⟨_, _, _, _, rfl, .inl ⟨.of h, .of h', k _ _ _ q1 g1 (it_zip h n rs h' n' rs')⟩⟩
    · obtain ⟨v, us, e, r, r2⟩ := r1.inv_cons
      obtain ⟨v', us', e', r', r2'⟩ := r2.inv_cons
      rw [r2'.inv_nil] at e'
      subst e' e
      obtain ⟨a1, vs1, e1, hs1, rs1⟩ := r.tupS
      obtain ⟨a2, vs2, e2, hs2, rs2⟩ := r'.tupS
      subst e1 e2
      exact ⟨_, _, _, _, rfl, .inr ⟨hs1 H1 (fun _ _ _ h => h), hs2 H1 (fun _ _ _ h => h), k _ _ _ q1 g1 (it_zipT hs1 rs1 hs2 rs2)⟩⟩
    · exact q1.elim⟩
end
end Pl
end

section
set_option Elab.async false
set_option linter.all false
set_option maxRecDepth 100000
set_option maxHeartbeats 1000000
set_option autoImplicit false
namespace Pl
open PySem PySem.Spec PyProof.Rows L2
/-! classes whose objects do not change behind __init__ -/
theorem putF_new {f : Str} {y : V} : ∀ {ns : List Str} {vs : List V}, ns.contains f = false → ns.length = vs.length → putF f y (ns.zip vs) = (ns ++ [f]).zip (vs ++ [y])
  | [], [], _, _ => rfl
  | [], _ :: _, _, h => nomatch h
  | _ :: _, [], _, h => nomatch h
  | n :: ns, v :: vs, h, hl => by
    simp only [List.contains_cons, Bool.or_eq_false_iff, beq_eq_false_iff_ne, ne_eq] at h
    simp only [List.cons_append, List.zip_cons_cons, putF]
    rw [if_neg (fun z => h.1 z.symm), putF_new h.2 (by simpa using hl)]
theorem lookup_none {f : Str} : ∀ {ns : List Str} {vs : List V}, ns.contains f = false → (ns.zip vs).lookup f = none
  | [], _, _ => rfl
  | _ :: _, [], _ => rfl
  | n :: ns, v :: vs, h => by
    simp only [List.contains_cons, Bool.or_eq_false_iff] at h
    simp only [List.zip_cons_cons, List.lookup, h.1]
    exact lookup_none h.2
section
variable {K : PySem.W.Frag} {T T' : Tp} {M : Addr → Prop} {H : Hp}
mutual
theorem Rep.tp (e : T'.t = T.t) : ∀ (d : D) (v : V), Rep K T M H v d → Rep K T' M H v d
  | .non, _, h => by cases h; exact .non
  | .bl b, _, h => by cases h; exact .bl b
  | .int i, _, h => by cases h; exact .int i
  | .str s, _, h => by cases h; exact .str s
  | .tape, _, h => by cases h; rw [← e]; exact .tape
  | .tup ds, _, h => by
    cases h with
    | tup h1 h2 h3 => exact .tup h1 h2 (Reps.tp e ds _ h3)
    | wtup h1 h3 => exact .wtup h1 (Reps.tp e ds _ h3)
  | .lst ds, _, h => by cases h with | lst h1 h2 h3 => exact .lst h1 h2 (Reps.tp e ds _ h3)
  | .dk ks ds, _, h => by cases h with | dk h1 h2 hl h3 => exact .dk h1 h2 hl (Reps.tp e ds _ h3)
  | .dt ks ds, _, h => by cases h with | dt h1 h2 hl h3 => exact .dt h1 h2 hl (Reps.tp e ds _ h3)
  | .obj c ns ds, _, h => by cases h with | obj h1 hc h2 hl h3 => exact .obj h1 hc h2 hl (Reps.tp e ds _ h3)
theorem Reps.tp (e : T'.t = T.t) : ∀ (ds : List D) (vs : List V), Reps K T M H vs ds → Reps K T' M H vs ds
  | [], _, h => by cases h; exact .nil
  | d :: ds, _, h => by cases h with | cons a b => exact .cons (Rep.tp e d _ a) (Reps.tp e ds _ b)
end
end
section
variable {P : Program} {w : World} {K : PySem.W.Frag} {mg : Str → Option Value} {base : Heap}
/-- a method of the text -/
structure Mth (K : PySem.W.Frag) (c m q : Str) (st : Stmt) : Prop where
  ex : ∃ fd, FunD K m q (defArgs st) (defBody st) (defScope st) [] [] (He.ma K (He.ga K c) m) fd
/-- a class of the text -/
structure Cla (K : PySem.W.Frag) (mg : Str → Option Value) (c : Str) : Prop where
  cls : Cls K (He.ga K c)
  mks : Mk K (He.ga K c) (He.ma K (He.ga K c) "__init__")
  glo : mg c = some (.ref (He.ga K c))
structure KnM (P : Program) (w : World) (K : PySem.W.Frag) (mg : Str → Option Value) (base : Heap) (k : Nat) (c m : Str) (sp : Sp) : Prop where
  ex : ∃ (fd : FuncData) (ps : List Str), FnOk P w K mg base CX0 k (He.ma K (He.ga K c) m) fd ps sp ∧ Meth K (He.ga K c) m (He.ma K (He.ga K c) m) ∧ Cls K (He.ga K c) ∧ Binds K fd ps []
/-- __init__: what it makes of the new object -/
def spI (K : PySem.W.Frag) (c : Str) (φ : Fn) : Sp := fun vs H Q _ => ∃ (T : Tp) (M0 : Addr → Prop) (x dx : Addr) (rest : List V) (ds : List D) (Qd : D → Prop), vs = .ref x :: rest ∧ H x = some (.ins (He.ga K c) dx []) ∧ ¬ M0 x ∧ x ≠ T.t ∧ Wd K T M0 H ∧
  Reps K T (fun a => M0 a ∨ a = x) H rest ds ∧ φ ds Qd ∧ ∀ d H', Qd d → (∀ a o, a ≠ T.t → a ≠ x → H a = some o → H' a = some o) → TapeOk K M0 H' T → Rep K T M0 H' (.ref x) d → Q .non H'
structure KnI (P : Program) (w : World) (K : PySem.W.Frag) (mg : Str → Option Value) (base : Heap) (k : Nat) (c : Str) (φ : Fn) : Prop where
  ex : ∃ (fd : FuncData) (ps : List Str), FnOk P w K mg base CX0 k (He.ma K (He.ga K c) "__init__") fd ps (spI K c φ) ∧ Cla K mg c ∧ Binds K fd ps []
structure DfM (X : Cx) (c m : Str) (φ : Fn) : Prop where
  ex : ∃ (k : Nat) (fd : FuncData) (ps : List Str), FnOk X.prog X.w X.K X.mg X.base CX0 k (He.ma X.K (He.ga X.K c) m) fd ps (spP X.K φ) ∧ Meth X.K (He.ga X.K c) m (He.ma X.K (He.ga X.K c) m) ∧ Cls X.K (He.ga X.K c) ∧ Room k X.A ∧ Binds X.K fd ps []
structure DfI (X : Cx) (c : Str) (φ : Fn) : Prop where
  ex : ∃ (k : Nat) (fd : FuncData) (ps : List Str), FnOk X.prog X.w X.K X.mg X.base CX0 k (He.ma X.K (He.ga X.K c) "__init__") fd ps (spI X.K c φ) ∧ Cla X.K X.mg c ∧ Room (k + 1) X.A ∧ Binds X.K fd ps []
theorem KnM.df {k j : Nat} {c m : Str} {φ : Fn} {X : Cx} (h : KnM X.prog X.w X.K X.mg X.base k c m (spP X.K φ)) (hr : Room j X.A) (hk : k ≤ j) : DfM X c m φ := by
  obtain ⟨fd, ps, F, hm, cl, b⟩ := h.ex
  exact ⟨k, fd, ps, F, hm, cl, hr.mono hk, b⟩
theorem KnI.df {k j : Nat} {c : Str} {φ : Fn} {X : Cx} (h : KnI X.prog X.w X.K X.mg X.base k c φ) (hr : Room j X.A) (hk : k + 1 ≤ j) : DfI X c φ := by
  obtain ⟨fd, ps, F, cl, b⟩ := h.ex
  exact ⟨k, fd, ps, F, cl, hr.mono hk, b⟩
theorem knm_of {c m q : Str} {st : Stmt} {N ps : List Str} {k : Nat} {φ : Fn} {Fb : FS} (F : Mth K c m q st) (hm : Meth K (He.ga K c) m (He.ma K (He.ga K c) m)) (cl : Cls K (He.ga K c)) (S : FnScope N ps (defScope st))
    (hb : ∀ (kV doc pm : Value) (an : Option Addr) (cdv ct : Value) (us : List Value), us.length = ps.length → bindArgs (PySem.W.fnOf m q (defArgs st) (defBody st) (defScope st) .none kV doc pm an cdv ct) ⟨us, []⟩ = pure (ps.zip us))
    (hlen : ∀ ds Q, φ ds Q → ds.length = ps.length)
    (hbody : ∀ (f : Addr) (cdv : Value) (A : Around) (outer : List Env) (s : Shared) (H : Hp) (E : XK), Room k (A.deeper (envOfC q (defScope st) s.heap.objs.size f cdv)) → PPSs (cxN P w K mg base N q (defScope st) f cdv A outer s H E) (defBody st) Fb)
    (hread : ∀ ds Q, φ ds Q → Fb (AEnds.fn Q) (startE N.length ds)) : KnM P w K mg base (k + 1) c m (spP K φ) := by
  obtain ⟨fd, F⟩ := F.ex
  refine ⟨fd, ps, F.ok S ?_ ?_, hm, cl, F.bindsN hb⟩
  · rintro vs H Q E ⟨T, M, ds, Qd, wd, r, q, _⟩
    rw [r.length]
    exact hlen _ _ q
  · rintro cdv A outer s H vs Q E hr ⟨T, M, ds, Qd, wd, r, q, kk⟩
    refine ⟨_, PSs.nox (hbody _ cdv A outer s H E hr), ⟨T, M, H, wd.mT, wd.md⟩, M, _, { nx := fun _ => Qd .non, rt := Qd }, sr_start wd r, hread ds Qd q, ?_⟩
    exact ⟨fun env M' σ H' a b => kk _ _ _ a b.grow0 .non, fun d v H' a b c => kk d v H' a b c, fun _ _ _ _ z => z.elim, fun _ _ _ _ z => z.elim⟩
theorem kni_of {c q : Str} {st : Stmt} {N ps : List Str} {k : Nat} {φ : Fn} {Fb : FS} (F : Mth K c "__init__" q st) (cl : Cla K mg c) (S : FnScope N ps (defScope st))
    (hb : ∀ (kV doc pm : Value) (an : Option Addr) (cdv ct : Value) (us : List Value), us.length = ps.length → bindArgs (PySem.W.fnOf "__init__" q (defArgs st) (defBody st) (defScope st) .none kV doc pm an cdv ct) ⟨us, []⟩ = pure (ps.zip us))
    (hlen : ∀ ds Q, φ ds Q → ds.length + 1 = ps.length) (hN : 0 < N.length)
    (hbody : ∀ (f : Addr) (cdv : Value) (A : Around) (outer : List Env) (s : Shared) (H : Hp) (E : XK), Room k (A.deeper (envOfC q (defScope st) s.heap.objs.size f cdv)) → PPSs (cxN P w K mg base N q (defScope st) f cdv A outer s H E) (defBody st) Fb)
    (hread : ∀ ds Q, φ ds Q → Fb (AEnds.ini Q) (startI N.length c ds)) : KnI P w K mg base (k + 1) c φ := by
  obtain ⟨fd, F⟩ := F.ex
  refine ⟨fd, ps, F.ok S ?_ ?_, cl, F.bindsN hb⟩
  · rintro vs H Q E ⟨T, M0, x, dx, rest, ds, Qd, rfl, hx, nx, xT, wd, r, q, _⟩
    rw [List.length_cons, r.length]
    exact hlen _ _ q
  · rintro cdv A outer s H vs Q E hr ⟨T, M0, x, dx, rest, ds, Qd, rfl, hx, nx, xT, wd, r, q, kk⟩
    obtain ⟨tk, ta, tm, tc, h1, h2, h3, h4⟩ := wd.tape
    have cx : T.c ≠ x := fun z => by rw [z, hx] at h2; cases h2
    have d0 : ∀ a, M0 a → (fun a => if a = x then none else H a) a ≠ none := fun a m => by
      have e : a ≠ x := fun z => nx (z ▸ m)
      show (if a = x then none else H a) ≠ none
      rw [if_neg e]
      exact wd.md a m
    have wd' : Wd K { T with me := x, on := true } (fun a => M0 a ∨ a = x) H := ⟨⟨tk, ta, tm, tc, h1, h2, fun z => z.elim h3 cx, h4⟩, .inl wd.mT, fun a m => m.elim (wd.md a) fun z => by rw [z, hx]; simp⟩
    have r' : Reps K { T with me := x, on := true } (fun a => M0 a ∨ a = x) H rest ds := Reps.tp (T := T) (T' := { T with me := x, on := true }) rfl ds rest r
    have s0 := sr_start (N := N) wd' (Reps.cons Rep.non r')
    refine ⟨_, PSs.nox (hbody _ cdv A outer s H E hr), ⟨{ T with me := x, on := true }, M0, fun a => if a = x then none else H a, wd.mT, d0⟩, fun a => M0 a ∨ a = x, _, AEnds.ini Qd, ?_, hread ds Qd q, ?_⟩
    · refine ⟨wd', fun _ z => .inl z, fun a z => z.elim .inl fun z => .inr (if_pos z), fun a o n e => ?_, ?_, fun i t e => ?_, fun i j l d e ij ei ej _ _ => ?_⟩
      · have e : (if a = x then none else H a) = some o := e
        split at e
        · cases e
        · exact e
      · have := s0.len
        simp only [L2.start, startE, startI, List.length_append, List.length_map, List.length_cons, List.length_replicate] at this ⊢
        omega
      · cases i with
        | zero =>
          have e : some (Slot.own (.obj c [] [])) = some t := e
          cases e
          exact ⟨x, rfl, .inr rfl, xT, if_pos rfl, _, dx, [], hx, rfl, rfl, .nil, fun _ => rfl⟩
        | succ i =>
          have e1 : (startE N.length (D.non :: ds))[i + 1]? = some t := by
            have hl : N.length - 1 - ds.length = N.length - (ds.length + 1) := by omega
            unfold startI at e
            unfold startE
            rw [hl] at e
            exact e
          have q1 := s0.sl (i + 1) t e1
          have e2 : (L2.start N (V.ref x :: rest)).getD (i + 1) none = (L2.start N (V.non :: rest)).getD (i + 1) none := by simp [L2.start]
          rw [e2]
          cases t with
          | non => trivial
          | val d => exact q1
          | own d =>
            exfalso
            unfold startE at e1
            have := List.mem_of_getElem? e1
            rcases List.mem_append.mp this with h | h
            · obtain ⟨_, _, z⟩ := List.mem_map.mp h; cases z
            · have := (List.mem_replicate.mp h).2; cases this
      · have nown : ∀ i d, (startI N.length c ds)[i + 1]? = some (Slot.own d) → False := fun i d e => by
          have e : (ds.map Slot.val ++ List.replicate (N.length - 1 - ds.length) Slot.non)[i]? = some (Slot.own d) := e
          have := List.mem_of_getElem? e
          rcases List.mem_append.mp this with h | h
          · obtain ⟨_, _, z⟩ := List.mem_map.mp h; cases z
          · have := (List.mem_replicate.mp h).2; cases this
        cases i with
        | zero => cases j with
          | zero => exact ij rfl
          | succ j => exact nown j _ ej
        | succ i => exact nown i _ ei
    · refine ⟨fun env M' σ H' a b => ?_, fun _ _ _ z => z.elim, fun _ _ _ _ z => z.elim, fun _ _ _ _ z => z.elim⟩
      obtain ⟨c', ns, us, ed, qd⟩ := a
      obtain ⟨l, el, ml, lT, h0, ow⟩ := b.sl 0 _ ed
      have lx : l = x := by
        obtain ⟨_, _, _, _, _, _, _, z⟩ := ow
        exact z rfl
      subst lx
      refine kk _ _ qd (fun a o n e he => b.gr a o n ?_) (b.wd.tape.mono fun a _ z => b.m0 a z) (Rep.tp (T := { T with me := l, on := true }) (T' := T) rfl _ _ (OwnR.rep (M := M0) (fun a z => b.m0 a z) nx ow))
      show (if a = l then none else H a) = some o
      rw [if_neg e]
      exact he
end
section
variable {X : Cx} {c m f : Str} {φ : Fn} {fo fe : FE} {fs : FEs} {o e value : Expr} {es : List Expr} {p apos pos pos' : Pos} {i : Nat} {x : Str}
/-- C(..) -/
theorem pp_make (F : DfI X c φ) (hg : Gl X c) (ha : PPA X (e :: es) fs)
    (hdb : (c == ("__debug__" : Str)) = false := by decide) (he : starEach (e :: es) X.env = (false, eval e X.env) :: starEach es X.env := by rfl) (hpl : (backTo pos (starEach es X.env)).any (·.1) = false := by rfl) :
    PP X (.Call (.Name c p) (e :: es) [] pos) (wCall φ fs) := by
  obtain ⟨k, fd, ps, F, cl, hr, hb⟩ := F.ex
  refine (pe_make cl.mks F hr hg cl.glo hb .nil pass0 ha hdb he hpl).imp fun σ H Q ⟨g, M, env, Qd, s, q, kk⟩ => ⟨g, M, env, _, s, q, fun ds vs H1 q1 g1 r1 => ?_⟩
  intro x dx hx hdx ne
  have s1 := s.grow g1
  have g2 : Grow X.K g.T M H1 (upd H1 dx (.own x)) := .new s1.wd hdx
  have hx2 : upd H1 dx (.own x) x = none := by rw [upd_ne (Ne.symm ne)]; exact hx
  have g3 : Grow X.K g.T M (upd H1 dx (.own x)) (upd (upd H1 dx (.own x)) x (.ins (He.ga X.K c) dx [])) := .new (s1.wd.grow g2) hx2
  have wd3 := (s1.wd.grow g2).grow g3
  have nx : ¬ M x := s1.wd.fresh hx
  have xT : x ≠ g.T.t := fun z => s1.wd.tape.ne (z ▸ hx)
  refine ⟨g.T, M, x, dx, vs, ds, Qd, by rw [List.append_nil], upd_same, nx, xT, wd3, ?_, q1, fun d H' qd kp tp rp => ⟨rfl, kk d _ H' qd (g1.trans ⟨fun a o n h => kp a o n (fun z => by rw [z, hx] at h; cases h) (g3.keep a o n (g2.keep a o n h)), tp⟩) rp⟩⟩
  exact Reps.keep (fun a h z => z.elim id fun z => absurd hx (z ▸ h)) (fun a o n h => g3.keep a o (fun z => n (z ▸ s1.wd.mT)) (g2.keep a o (fun z => n (z ▸ s1.wd.mT)) h)) ds vs r1
/-- o.m(..) -/
theorem pp_meth {pl : Sem Bool} (ho : PP X o fo) (F : DfM X c m φ) (ha : PPA X (e :: es) fs)
    (hst : starEach (e :: es) X.env = (false, eval e X.env) :: starEach es X.env := by rfl) (hpl : (backTo pos (starEach es X.env)).any (·.1) = false := by rfl)
    (ht : eval (.Call (.Attribute o m apos) (e :: es) [] pos) X.env = (do
      let ov ← eval o X.env
      standAt apos.atName
      let (f, first) ← holding [ov] (getMethod ov m pl)
      callWith pos f first (backTo pos (starEach (e :: es) X.env)) (backToKw pos (keywordEach [] X.env))) := by rfl) :
    PP X (.Call (.Attribute o m apos) (e :: es) [] pos) (wMeth c m φ fo fs) := by
  obtain ⟨k, fd, ps, F, hm, cl, hr, hb⟩ := F.ex
  refine (pe_meth ho cl hm F hr hb .nil pass0 ha hst hpl ht).imp fun σ H Q ⟨g, M, env, Qd, s, q, kk⟩ => ⟨g, M, env, _, s, q, fun d v H1 ⟨q0, q1⟩ g1 r1 => ?_⟩
  cases d with
  | obj c' ns us =>
    obtain ⟨ec, hn⟩ := q0
    subst ec
    have r1' := r1
    cases r1 with
    | @obj a C dx _ _ vs _ h hC n hl rs =>
      subst hC
      have s1 := s.grow g1
      refine ⟨a, dx, _, rfl, h, lookup_none hn, g, M, env, _, s1, q1, fun ds vs2 H2 q2 g2 r2 => ?_⟩
      exact ⟨g.T, M, _, Qd, (s1.grow g2).wd, by rw [List.append_nil]; exact .cons (s1.wd.rep g2 r1') r2, q2, fun d v H' a b c => kk d v H' a ((g1.trans g2).trans b) c⟩
  | _ => exact q0.elim
theorem pp_meth0 {pl : Sem Bool} (ho : PP X o fo) (F : DfM X c m φ)
    (ht : eval (.Call (.Attribute o m apos) [] [] pos) X.env = (do
      let ov ← eval o X.env
      standAt apos.atName
      let (f, first) ← holding [ov] (getMethod ov m pl)
      callWith pos f first (backTo pos (starEach [] X.env)) (backToKw pos (keywordEach [] X.env))) := by rfl) :
    PP X (.Call (.Attribute o m apos) [] [] pos) (wMeth c m φ fo wNil) := by
  obtain ⟨k, fd, ps, F, hm, cl, hr, hb⟩ := F.ex
  refine (pe_meth0 ho cl hm F hr hb .nil pass0 ht).imp fun σ H Q ⟨g, M, env, Qd, s, q, kk⟩ => ⟨g, M, env, _, s, q, fun d v H1 ⟨q0, q1⟩ g1 r1 => ?_⟩
  cases d with
  | obj c' ns us =>
    obtain ⟨ec, hn⟩ := q0
    subst ec
    have r1' := r1
    cases r1 with
    | @obj a C dx _ _ vs _ h hC n hl rs =>
      subst hC
      have s1 := s.grow g1
      refine ⟨a, dx, _, rfl, h, lookup_none hn, ?_⟩
      exact ⟨g.T, M, _, Qd, s1.wd, .cons r1' .nil, q1, fun d v H' a b c => kk d v H' a (g1.trans b) c⟩
  | _ => exact q0.elim
/-- self.f = e -/
theorem pp_setF (i : Nat) (cl : Cls X.K (He.ga X.K c)) (na : NoAttr X.K (He.ga X.K c) f) (hv : PP X value fe) (hN : X.N[i]? = some x := by rfl) (hvs : Vis X.env.scope x := by first | exact Or.inl rfl | exact Or.inr (Or.inl rfl) | exact Or.inr (Or.inr rfl))
    (hd : (x == ("__debug__" : Str)) = false := by decide) (hcd : (x == ("__classdict__" : Str)) = false := by decide)
    (hs : swapsWith value (some (.Attribute (.Name x p) f pos')) pos.line X.env = pure false := by rfl) :
    PPS X (.Assign [.Attribute (.Name x p) f pos'] value pos) (wSetF c i f fe) :=
  (ps_fld (pe_var hN hvs hd hcd) hv hs).imp fun D σ H ⟨g, M, env, A, s, q, kk⟩ => ⟨g, M, env, _, s, q, fun y v H1 ⟨ns, ds, ei, hn, hl, q1⟩ g1 r1 => by
    have s1 := s.grow g1
    obtain ⟨o, eo, l, el, ml, lT, h0, C, dx, us, h, hC, hlen, rs, me⟩ := s1.slot ei
    subst el
    subst hC
    refine ⟨_, eo, l, _, dx, _, rfl, h, cl, na, by simp only [List.length_zip]; omega, ?_⟩
    have hlen2 : (ns ++ [f]).length = (us ++ [v]).length := by simp [hlen]
    have hi : σ[i]? = some (some (.ref l)) := eo
    refine kk.nx _ M _ _ q1 (s1.mut ei hi ⟨_, dx, us ++ [v], ?_, rfl, hlen2, ?_, me⟩)
    · rw [upd_same, putF_new hn hlen]
    · exact ((rs.append (.cons r1 .nil))).updM ml⟩
end
end Pl
namespace Pl
open PySem PySem.Spec PyProof.Rows L2
def kCls (x : Str) : KB := fun K => (He.Fa.cls x).ok K
def kMkr (x : Str) : KB := fun K => (He.Fa.mkr x).ok K
def kMeth (x m : Str) : KB := fun K => (He.Fa.meth x m).ok K
def kNoat (x f : Str) : KB := fun K => (He.Fa.noat x f).ok K
section
variable {K : PySem.W.Frag} {h : Heap} {mg : Str → Option Value} {bs : List KB} {fn : List He.DefD} {x m f q : Str}
theorem cls_of (c : SaysB bs fn K) (j : Nat) (e : bs[j]? = some (kCls x) := by rfl) : Cls K (He.ga K x) := He.cls_ok (c.fact j e)
theorem noat_of (c : SaysB bs fn K) (j : Nat) (e : bs[j]? = some (kNoat x f) := by rfl) : NoAttr K (He.ga K x) f := He.noat_ok (c.fact j e)
theorem meth_of (c : SaysB bs fn K) (j : Nat) (e : bs[j]? = some (kMeth x m) := by rfl) : Meth K (He.ga K x) m (He.ma K (He.ga K x) m) := He.meth_ok (c.fact j e)
theorem mth_of (c : SaysB bs fn K) (i : Nat) {st : Stmt} (e : fn[i]? = some (mOf x m q st) := by rfl) : Mth K x m q st := by
  obtain ⟨fd, F⟩ := c.def_ i e
  exact ⟨fd, F⟩
theorem cla_of (X : K.In h) (G : h.Ns mainGlobals mg) (c : SaysB bs fn K) (i j k : Nat) (e1 : bs[i]? = some (kCls x) := by rfl) (e2 : bs[j]? = some (kMkr x) := by rfl) (e3 : bs[k]? = some (kGlo x) := by rfl) : Cla K mg x :=
  ⟨He.cls_ok (c.fact i e1), He.mkr_ok (c.fact j e2), He.glo_ok X G (c.fact k e3)⟩
end
end Pl
end

section
set_option Elab.async false
set_option linter.all false
set_option maxRecDepth 100000
set_option maxHeartbeats 1000000
set_option autoImplicit false
namespace Pl
open PySem PySem.Spec PyProof.Rows L2
/-! dicts: displays, subscripts; slices of tuples -/
theorem putK_new {k : Key} {v : V} {acc : List (Key × V)} (h : k ∉ acc.map (·.1)) : putK acc k v = acc ++ [(k, v)] := by
  have e : (acc.any fun kv => decide (kv.1 = k)) = false := by
    rw [List.any_eq_false]
    intro x hx z
    exact h (List.mem_map.mpr ⟨x, hx, of_decide_eq_true z⟩)
  unfold putK
  rw [e]
  rfl
theorem mergeK_new : ∀ (ks : List Key) (vs : List V) (acc : List (Key × V)), ks.Nodup → (∀ k ∈ ks, k ∉ acc.map (·.1)) → mergeK acc (ks.zip vs) = acc ++ ks.zip vs
  | [], vs, acc, _, _ => by simp [mergeK]
  | k :: ks, [], acc, _, _ => by simp [mergeK]
  | k :: ks, v :: vs, acc, hn, hd => by
    have e : mergeK acc ((k :: ks).zip (v :: vs)) = mergeK (putK acc k v) (ks.zip vs) := rfl
    rw [e, putK_new (hd k List.mem_cons_self), mergeK_new ks vs _ (List.nodup_cons.mp hn).2 ?_]
    · simp
    · intro j hj z
      rw [List.map_append, List.mem_append] at z
      rcases z with z | z
      · exact hd j (List.mem_cons_of_mem _ hj) z
      · have z : j = k := by simpa using z
        exact (List.nodup_cons.mp hn).1 (z ▸ hj)
theorem kLook_ok {K : PySem.W.Frag} {T : Tp} {M : Addr → Prop} {H : Hp} {k : Key} : ∀ {ks : List Key} {vs : List V} {ds : List D} {d : D}, Reps K T M H vs ds → kLook k ks ds = some d → ∃ v, valV (ks.zip vs) k = some v ∧ Rep K T M H v d
  | [], _, _, _, _, e => by cases e
  | n :: ns, _, [], _, _, e => by cases e
  | n :: ns, _, d :: ds, d', r, e => by
    cases r with
    | @cons v vs _ _ r1 r2 =>
      unfold kLook at e
      by_cases h : n = k
      · rw [if_pos h] at e
        cases e
        exact ⟨v, valV_pos (p := (n, v)) h, r1⟩
      · rw [if_neg h] at e
        obtain ⟨u, lu, ru⟩ := kLook_ok r2 e
        refine ⟨u, ?_, ru⟩
        simp only [valV, List.zip_cons_cons, List.find?_cons] at lu ⊢
        rw [decide_eq_false h]
        exact lu
/-- a display's pairs -/
structure PPD (X : Cx) (pos : Pos) (keys : List (Option Expr)) (values : List Expr) (ks : List Key) (fs : FEs) : Prop where
  ex : ∃ trs, PPs X pos keys values trs ∧ ∀ (g : Gh) (M : Addr → Prop) (env : AEnv) (σ : L2.St) (H : Hp) (Qd : List D → Prop) (R : List (V × V) → Hp → Prop), SR X.K g M σ H env → fs env Qd →
    (∀ ds vs H', Qd ds → Grow X.K g.T M H H' → Reps X.K g.T M H' vs ds → ks.length = vs.length → R ((ks.zip vs).map fun kv => (kV kv.1, kv.2)) H') → tPairs trs σ H R
section
variable {X : Cx} {pos : Pos}
theorem ppd_nil : PPD X pos [] [] [] wNil := ⟨[], L2.pps_nil, fun g M env σ H Qd R s q k => k [] [] H q (.refl s.wd) .nil rfl⟩
theorem ppd_str {x : Str} {j : Nat} {p : Pos} {v : Expr} {keys : List (Option Expr)} {values : List Expr} {ks : List Key} {f : FE} {fs : FEs} (hv : PP X v f) (h : PPD X pos keys values ks fs) :
    PPD X pos (some (.Constant (.str x) j p) :: keys) (v :: values) (.inr x :: ks) (wCons f fs) := by
  obtain ⟨trs, hp, hr⟩ := h.ex
  refine ⟨_ :: trs, L2.pps_cons pe_str hv hp, fun g M env σ H Qd R s q k => ?_⟩
  refine ⟨g, M, env, _, s, q, fun d v1 H1 q1 g1 r1 => ?_⟩
  have s1 := s.grow g1
  refine hr g M env σ H1 _ _ s1 q1 fun ds vs H2 q2 g2 r2 hl => ?_
  exact k (d :: ds) (v1 :: vs) H2 q2 (g1.trans g2) (.cons (s1.wd.rep g2 r1) r2) (by simpa using hl)
theorem pp_dict {keys : List (Option Expr)} {values : List Expr} {ks : List Key} {fs : FEs} (h : PPD X pos keys values ks fs) (hall : keys.all (·.isSome) = true := by rfl) (hl : keys.length = values.length := by rfl) (h0 : keys ≠ [] := by simp)
    (h15 : keys.length ≤ 15 := by decide) (hk : ks.length ≤ 15 := by decide) (hn : ks.Nodup := by decide) : PP X (.Dict keys values pos) (wDict ks fs) := by
  obtain ⟨trs, hp, hr⟩ := h.ex
  refine (pe_disp hp hall hl h0 h15).imp fun σ H Q ⟨g, M, env, Qd, s, q, k⟩ => fun p hp => ?_
  have s1 := s.hide hp (.dK [])
  have pT : p ≠ g.T.t := fun z => by subst z; exact s.wd.tape.ne hp
  refine hr g _ env σ _ _ _ s1 q fun ds vs H' qd g1 r1 hlen => ?_
  have hl2 : (ks.zip vs).length ≤ 15 := by rw [List.length_zip]; omega
  refine ⟨g1.keep p _ pT upd_same, ks.zip vs, rfl, hl2, ?_⟩
  have em : mergeK [] (ks.zip vs) = ks.zip vs := by rw [mergeK_new ks vs [] hn (fun _ _ => by simp)]; rfl
  rw [em]
  refine k _ _ _ qd ⟨fun a o n e => ?_, ?_⟩ (.dk upd_same (s.wd.fresh hp) hlen ?_)
  · have ap : a ≠ p := ne_of_none e hp
    rw [upd_ne ap]
    exact g1.keep a o n (by rw [upd_ne ap]; exact e)
  · obtain ⟨tk, ta, tm, tc, h1, h2, h3, h4⟩ := g1.tape
    exact ⟨tk, ta, tm, tc, by rw [upd_ne (Ne.symm pT)]; exact h1, by rw [upd_ne (fun z => h3 (.inr z))]; exact h2, fun z => h3 (.inl z), h4⟩
  · exact Reps.keep (fun a _ z => .inl z) (fun a o n h => by rw [upd_ne (fun z => n (.inr z))]; exact h) ds vs r1
theorem pp_dget {o i : Expr} {fo fi : FE} (hu : X.A.units + 1 < cLine) (ho : PP X o fo) (hi : PP X i fi) (hs : NoSl i := by intro _ _; rfl) : PP X (.Subscript o i pos) (wBin dGet fo fi) :=
  (pe_dget hu ho hi hs).imp fun σ H Q ⟨g, M, env, Qd, s, q, k⟩ => ⟨g, M, env, _, s, q, fun d v H1 q1 g1 r1 => by
    have s1 := s.grow g1
    refine ⟨g, M, env, _, s1, q1, fun d2 v2 H2 q2 g2 r2 => ?_⟩
    unfold dGet at q2
    split at q2
    · obtain ⟨kk, d3, e1, e2, q3⟩ := q2
      have r1' := s1.wd.rep g2 r1
      cases r1' with
      | @dk a _ vs _ h n hl rs =>
        obtain ⟨u, lu, ru⟩ := kLook_ok rs e2
        have ev : v2 = kV kk := by
          cases d2 with
          | int i => cases e1; exact r2.b.int
          | str x => cases e1; exact r2.b.str
          | _ => cases e1
        exact ⟨a, u, rfl, .inl ⟨_, kk, .inl h, ev, lu.symm⟩, k _ _ _ q3 (g1.trans g2) ru⟩
    · exact q2.elim⟩
end
section
variable {X : Cx} {pos : Pos}
theorem pp_sliceT {e : Expr} {lo hi : Option Expr} {f : FE} {fl fh : FO} {p2 : Pos} (he : PB X e f) (hl : PPO X lo fl) (hh : PPO X hi fh) :
    PP X (.Subscript e (.Slice lo hi none p2) pos) (wSliceT f fl fh) :=
  PE.imp (pe_slice (sl_list.or sl_tupA) he hl hh) fun σ H Q ⟨g, M, env, Qd, s, q, k⟩ => ⟨g, M, env, _, s, q, fun d v H1 q1 g1 r1 => by
    have s1 := s.grow g1
    refine ⟨g, M, env, _, s1, q1, fun o H2 q2 g2 => ?_⟩
    have s2 := s1.grow g2
    refine ⟨g, M, env, _, s2, q2, fun o' H3 q3 g3 => ?_⟩
    have s3 := s2.grow g3
    have r3 := s2.wd.brep g3 (s1.wd.brep g2 r1)
    split at q3
    · obtain ⟨a, vs, e1, h, rs⟩ := r3.lst
      refine .inl ⟨a, vs, e1, .of h, fun p hp => ?_⟩
      have g4 : Grow X.K g.T M H3 (upd H3 p (.lst (cutV vs o o'))) := .new s3.wd hp
      exact k _ _ _ q3 (((g1.trans g2).trans g3).trans g4) (.lst upd_same (s3.wd.fresh hp) (s3.wd.reps g4 (rs.cut _ _)))
    · rename_i xs
      have r3' : Rep X.K g.T M H3 v (.tup xs) := r3.elim id fun ⟨_, _, _, _, z⟩ => z.elim
      obtain ⟨a, vs, e1, h, rs⟩ := r3.tup
      refine .inr ⟨a, vs, e1, h, fun ⟨z1, z2⟩ => ?_, fun _ p hp => ?_⟩
      · have e : cutD xs o o' = xs := by
          unfold cutD
          rw [sIxD_eq, sIxD_eq, ← rs.length, z1, z2, rs.length]
          simp
        rw [e] at q3
        exact k _ _ _ q3 ((g1.trans g2).trans g3) (e1 ▸ r3')
      · have g4 : Grow X.K g.T M H3 (upd H3 p (.tup (cutV vs o o'))) := .new s3.wd hp
        exact k _ _ _ q3 (((g1.trans g2).trans g3).trans g4) (.tup upd_same (s3.wd.fresh hp) (s3.wd.reps g4 (rs.cut _ _)))
    · exact q3.elim⟩
end
end Pl
end

section
set_option Elab.async false
set_option linter.all false
set_option maxRecDepth 100000
set_option maxHeartbeats 1000000
set_option autoImplicit false
namespace Pl
open PySem PySem.Spec PyProof.Rows L2
/-! list(zip(a, b)) of two lists -/
theorem zip_no_len : typeLookup (.type "zip") "__len__" = pure none := by rw [typeLookup_type, builtinLookup_eq_fast]; kernel_rfl
theorem zip_no_hint : typeLookup (.type "zip") "__length_hint__" = pure none := by rw [typeLookup_type, builtinLookup_eq_fast]; kernel_rfl
/-- the zip object behind k items -/
def ZipSt (h : Heap) (z TI TO i1 i2 a b : Addr) (k : Nat) : Prop :=
  IsPair h TI (.ref i1) (.ref i2) ∧ h.IsListIter i1 a k ∧ h.IsListIter i2 b k ∧ ((IsZip h z TI TO .none ∧ ∃ x y, IsPair h TO x y) ∨ ∃ T f oT, IsZipHeld h z TI TO T f ∧ h.get? T = some oT ∧ ∃ oO, h.get? TO = some oO)
theorem ZipSt.to {h : Heap} {z TI TO i1 i2 a b : Addr} {k : Nat} (q : ZipSt h z TI TO i1 i2 a b k) : ∃ o, h.get? TO = some o := by
  obtain ⟨_, _, _, ⟨_, _, _, e⟩ | ⟨_, _, _, _, _, o, e⟩⟩ := q <;> exact ⟨_, e⟩
theorem ZipSt.ty {h : Heap} {z TI TO i1 i2 a b : Addr} {k : Nat} (q : ZipSt h z TI TO i1 i2 a b k) : ∃ o, h.get? z = some o ∧ o.cls = .type "zip" := by
  obtain ⟨_, _, _, ⟨e, _⟩ | ⟨_, _, _, e, _⟩⟩ := q <;> exact ⟨_, e, rfl⟩
theorem ZipSt.keep {h h' : Heap} {z TI TO i1 i2 a b S : Addr} {k : Nat} (q : ZipSt h z TI TO i1 i2 a b k) (kp : ∀ c o, c ≠ S → h.get? c = some o → h'.get? c = some o) (h0 : z ≠ S) (h1 : TI ≠ S) (h2 : TO ≠ S) (h3 : i1 ≠ S) (h4 : i2 ≠ S) (hS : ∃ o, h'.get? S = some o) : ZipSt h' z TI TO i1 i2 a b k := by
  obtain ⟨q1, q2, q3, q4⟩ := q
  refine ⟨kp _ _ h1 q1, q2.at fun o e => kp _ o h3 e, q3.at fun o e => kp _ o h4 e, ?_⟩
  rcases q4 with ⟨e, x, y, e2⟩ | ⟨T, f, oT, e, e2, oO, e3⟩
  · exact .inl ⟨kp _ _ h0 e, x, y, kp _ _ h2 e2⟩
  · by_cases c : T = S
    · obtain ⟨o, ho⟩ := hS
      exact .inr ⟨T, f, o, kp _ _ h0 e, c ▸ ho, oO, kp _ _ h2 e3⟩
    · exact .inr ⟨T, f, oT, kp _ _ h0 e, kp _ _ c e2, oO, kp _ _ h2 e3⟩
/-- pyNext of the zip, an item -/
theorem zip_next {prog : Program} {w : World} {A : Around} {E : Value → Shared → Prop} {s : Shared} {z TI TO i1 i2 a b : Addr} {k : Nat} {xs ys : Array Value} {x y : Value} {Q : Option Value → Shared → Prop} (D : ZipApart z TI TO i1 i2 a b) (st : ZipSt s.heap z TI TO i1 i2 a b k)
    (hl1 : s.heap.IsList a xs) (hl2 : s.heap.IsList b ys) (hx : xs[k]? = some x) (hy : ys[k]? = some y)
    (hQ : ∀ h', ZipSt h' z TI TO i1 i2 a b (k + 1) → IsPair h' s.heap.objs.size x y → (∀ c o, c ∉ [z, TO, i1, i2] → s.heap.get? c = some o → h'.get? c = some o) → Q (some (.ref s.heap.objs.size)) { s with heap := h' }) :
    wpAny (model prog w) A (pyNext (.ref z)) Q E s := by
  obtain ⟨q1, q2, q3, ⟨e, x0, y0, e2⟩ | ⟨T, f, oT, e, e2, oO, e9⟩⟩ := st
  · refine wpAny_pyNext_zip_item D e q1 e2 q2 q3 hl1 hl2 hx hy fun h' a1 a2 a3 a4 a5 a6 a7 => ?_
    refine hQ h' ⟨a7 _ _ D.TIz D.TITO D.TIi1 D.TIi2 q1, a3, a4, .inr ⟨_, false, _, a1, a5, _, a2⟩⟩ a5 fun c o hc hg => ?_
    simp only [List.mem_cons, List.not_mem_nil, or_false, not_or] at hc
    exact a7 c o hc.1 hc.2.1 hc.2.2.1 hc.2.2.2 hg
  · refine wpAny_pyNext_zip_item_held D e e2 q1 q2 q3 hl1 hl2 hx hy fun h' a1 a3 a4 a5 a6 a7 => ?_
    have hT : T ≠ z ∨ T = z := by
      by_cases c : T = z
      · exact .inr c
      · exact .inl c
    have oT' : ∃ o, h'.get? T = some o := by
      by_cases c1 : T = z
      · exact ⟨_, by rw [c1]; exact a1⟩
      · by_cases c2 : T = i1
        · obtain ⟨o, ho, _⟩ := a3; exact ⟨o, c2 ▸ ho⟩
        · by_cases c3 : T = i2
          · obtain ⟨o, ho, _⟩ := a4; exact ⟨o, c3 ▸ ho⟩
          · exact ⟨oT, a7 _ _ c1 c2 c3 e2⟩
    obtain ⟨o', ho'⟩ := oT'
    refine hQ h' ⟨a7 _ _ D.TIz D.TIi1 D.TIi2 q1, a3, a4, .inr ⟨T, true, o', a1, ho', oO, a7 _ _ D.TOz D.TOi1 D.TOi2 e9⟩⟩ a5 fun c o hc hg => ?_
    simp only [List.mem_cons, List.not_mem_nil, or_false, not_or] at hc
    exact a7 c o hc.1 hc.2.2.1 hc.2.2.2 hg
theorem zip_stop {prog : Program} {w : World} {A : Around} {E : Value → Shared → Prop} {s : Shared} {z TI TO i1 i2 a b : Addr} {k : Nat} {xs ys : Array Value} {Q : Option Value → Shared → Prop} (hh : A.handled = none) (D : ZipApart z TI TO i1 i2 a b) (st : ZipSt s.heap z TI TO i1 i2 a b k)
    (hl1 : s.heap.IsList a xs) (hl2 : s.heap.IsList b ys) (he : xs[k]? = none ∨ ys[k]? = none)
    (hQ : ∀ h', (∀ c o, c ∉ [z, TO, i1, i2] → s.heap.get? c = some o → h'.get? c = some o) → Q none { s with heap := h' }) :
    wpAny (model prog w) A (pyNext (.ref z)) Q E s := by
  obtain ⟨q1, q2, q3, ⟨e, x0, y0, e2⟩ | ⟨T, f, oT, e, e2, oO, e9⟩⟩ := st
  · refine wpAny_pyNext_zip_end hh D e q1 e2 q2 q3 hl1 hl2 he fun h' a7 => hQ h' fun c o hc hg => ?_
    simp only [List.mem_cons, List.not_mem_nil, or_false, not_or] at hc
    exact a7 c o hc.1 hc.2.1 hc.2.2.1 hc.2.2.2 hg
  · refine wpAny_pyNext_zip_end_held hh D e e2 q1 q2 q3 hl1 hl2 he fun h' a7 => hQ h' fun c o hc hg => ?_
    simp only [List.mem_cons, List.not_mem_nil, or_false, not_or] at hc
    exact a7 c o hc.1 hc.2.2.1 hc.2.2.2 hg
/-- the pairs so far -/
def Pairs (H0 H : Hp) (xs ys items : List V) : Prop := ∀ (j : Nat), j < items.length → ∃ T x y, items[j]? = some (.ref T) ∧ xs[j]? = some x ∧ ys[j]? = some y ∧ H T = some (.tup [x, y]) ∧ H0 T = none
theorem zip_drain {X : Cx} {pins : List (Addr × Obj)} {σ : L2.St} {S z TI TO i1 i2 a b : Addr} {B : Around} {res : Value} {R : Result → Shared → Prop} {xs ys : List V} {H0 : Hp} (hh : B.handled = none) (D : ZipApart z TI TO i1 i2 a b)
    (hSz : S ∉ [z, TI, TO, i1, i2, a, b]) (hxs : xs.length ≤ sizeLine)
    (hend : ∀ (s' : Shared) (H' : Hp) (items : List V), Inv X pins σ H' s' → H' S = some (.lst items) → items.length = min xs.length ys.length → Pairs H0 H' xs ys items → (∀ c o, c ≠ S → H0 c = some o → H' c = some o) → R (.ok (.ret res)) s') :
    ∀ (n : Nat) (items : List V) (s : Shared) (H : Hp), min xs.length ys.length = items.length + n → Inv X pins σ H s → H S = some (.lst items) → H a = some (.lst xs) → H b = some (.lst ys) → ZipSt s.heap z TI TO i1 i2 a b items.length →
      (∀ c ∈ [z, TI, TO, i1, i2], FpOk X pins H c) → Pairs H0 H xs ys items → (∀ c o, c ≠ S → H0 c = some o → H c = some o) → codeAny (model X.prog X.w) B (.builtin "list.extend.loop" ⟨[.ref S, .ref z, res], []⟩) R s := by
  intro n
  induction n with
  | zero =>
    intro items s H hn I hS hqx hqy st hf pr kp
    obtain ⟨its, rv, p, _⟩ := I.list (.of hqx)
    obtain ⟨its2, rv2, p2, _⟩ := I.list (.of hqy)
    have l1 := rv.length
    have l2 := rv2.length
    refine codeAny_builtin F.entry_extend_loop ?_
    rw [Around.under_plainId F.plain_extend_loop _]
    show wpAny _ B.in1 (pyNext (.ref z) >>= _) _ _ s
    have he : its.toArray[items.length]? = none ∨ its2.toArray[items.length]? = none := by
      rcases (by omega : xs.length ≤ items.length ∨ ys.length ≤ items.length) with q | q
      · exact .inl (by simp; omega)
      · exact .inr (by simp; omega)
    refine wpAny_bind (zip_stop (A := B.in1) hh D st p.isList p2.isList he fun h' hk => ?_)
    refine wpAny_pure ?_
    have I2 : Inv X pins σ H { s with heap := h' } := I.turnedL (t' := s.toks) (ch := [z, TO, i1, i2]) hk fun c hc => hf c (by simp only [List.mem_cons, List.not_mem_nil, or_false] at hc ⊢; rcases hc with q | q | q | q <;> simp [q])
    exact hend _ H items I2 hS (by omega) pr kp
  | succ n ih =>
    intro items s H hn I hS hqx hqy st hf pr kp
    obtain ⟨its, rv, p, _⟩ := I.list (.of hqx)
    obtain ⟨its2, rv2, p2, _⟩ := I.list (.of hqy)
    obtain ⟨x, hx⟩ : ∃ x, xs[items.length]? = some x := ⟨_, List.getElem?_eq_getElem (by omega)⟩
    obtain ⟨y, hy⟩ : ∃ y, ys[items.length]? = some y := ⟨_, List.getElem?_eq_getElem (by omega)⟩
    obtain ⟨u, hu, ru⟩ := rv.get hx
    obtain ⟨u2, hu2, ru2⟩ := rv2.get hy
    refine codeAny_builtin F.entry_extend_loop ?_
    rw [Around.under_plainId F.plain_extend_loop _]
    show wpAny _ B.in1 (pyNext (.ref z) >>= _) _ _ s
    refine wpAny_bind (zip_next (A := B.in1) D st p.isList p2.isList (x := u) (y := u2) (by simpa using hu) (by simpa using hu2) fun h' st' hT hk => ?_)
    have hfc : ∀ c ∈ [z, TO, i1, i2], FpOk X pins H c := fun c hc => hf c (by simp only [List.mem_cons, List.not_mem_nil, or_false] at hc ⊢; rcases hc with q | q | q | q <;> simp [q])
    have new : ObjOk X.prog X.w (upd H s.heap.objs.size (.tup [x, y])) h' s.heap.objs.size (.tup [x, y]) :=
      ⟨by show 2 ≤ sizeLine; decide, [u, u2], .cons ru (.cons ru2 .nil), ⟨_, hT, rfl, _, rfl⟩⟩
    have I1 : Inv X pins σ (upd H s.heap.objs.size (.tup [x, y])) { s with heap := h' } := I.turnedNew (t' := s.toks) (ch := [z, TO, i1, i2]) hk hfc (Nat.le_refl _) new
    have hTn : H s.heap.objs.size = none := I.hok.fresh (Nat.le_refl _)
    have hS1 : (upd H s.heap.objs.size (.tup [x, y])) S = some (.lst items) := by rw [upd_ne (ne_of_none hS hTn)]; exact hS
    obtain ⟨zl, li, nn, rl, hl, e⟩ := I1.lstM hS1
    show wpAny _ B.in1 (updateSeq S (·.push (.ref s.heap.objs.size)) >>= _) _ _ _
    have hll : items.length < sizeLine := by omega
    refine wpAny_bind (wpAny_updateSeq e rfl (wpAny_pure ⟨plainId_quiet F.plain_extend_loop _, ?_⟩) (by rw [List.size_toArray]; omega) (by show (li.toArray.push _).size ≤ sizeLine + 1; rw [Array.size_push, List.size_toArray]; omega))
    have rv' : Vals (items ++ [V.ref s.heap.objs.size]) (li ++ [Value.ref s.heap.objs.size]) := rl.append (.cons rfl .nil)
    have I2 := I1.lset (its' := li ++ [Value.ref s.heap.objs.size]) (f := (·.push (.ref s.heap.objs.size))) (t' := s.toks) hS1 e (by simp) rv' (by rw [List.length_append, List.length_singleton]; omega)
    have nSz : ∀ c, c ∈ [z, TI, TO, i1, i2, a, b] → c ≠ S := fun c hc q => hSz (q ▸ hc)
    have tS : s.heap.objs.size ≠ S := fun q => by rw [← q, hTn] at hS; cases hS
    have kk : ∀ c o, c ≠ S → H c = some o → upd (upd H s.heap.objs.size (.tup [x, y])) S (.lst (items ++ [.ref s.heap.objs.size])) c = some o := fun c o n q => by rw [upd_ne n, upd_ne (ne_of_none q hTn)]; exact q
    refine ih (items ++ [.ref s.heap.objs.size]) _ _ ?_ I2 upd_same ?_ ?_ ?_ ?_ ?_ ?_
    · rw [List.length_append, List.length_singleton]; omega
    · exact kk _ _ (nSz _ (by simp)) hqx
    · exact kk _ _ (nSz _ (by simp)) hqy
    · rw [List.length_append, List.length_singleton]
      exact st'.keep (S := S) (fun c o n q => (Heap.get?_update_other _ _ (Ne.symm n)).trans q) (nSz _ (by simp)) (nSz _ (by simp)) (nSz _ (by simp)) (nSz _ (by simp)) (nSz _ (by simp)) ⟨_, Heap.get?_update_self _ e rfl⟩
    · intro c hc
      obtain ⟨f0, fr⟩ := hf c hc
      have cl : c ≠ s.heap.objs.size := by
        obtain ⟨oz, hoz, _⟩ := st.ty
        obtain ⟨oO, hoO⟩ := st.to
        obtain ⟨q1, ⟨o1, e1, _⟩, ⟨o2, e2, _⟩, q4⟩ := st
        simp only [List.mem_cons, List.not_mem_nil, or_false] at hc
        rcases hc with q | q | q | q | q
        · rw [q]; exact Nat.ne_of_lt (Heap.lt_size hoz)
        · rw [q]; exact Nat.ne_of_lt (Heap.lt_size q1)
        · rw [q]; exact Nat.ne_of_lt (Heap.lt_size hoO)
        · rw [q]; exact Nat.ne_of_lt (Heap.lt_size e1)
        · rw [q]; exact Nat.ne_of_lt (Heap.lt_size e2)
      refine ⟨?_, fr⟩
      rw [upd_ne (nSz c (by simp only [List.mem_cons, List.not_mem_nil, or_false] at hc ⊢; rcases hc with q | q | q | q | q <;> simp [q])), upd_ne cl]
      exact f0
    · intro j hj
      rw [List.length_append, List.length_singleton] at hj
      rcases (by omega : j < items.length ∨ j = items.length) with q | q
      · obtain ⟨T, x', y', e1, e2, e3, e4, e5⟩ := pr j q
        refine ⟨T, x', y', by rw [List.getElem?_append_left q]; exact e1, e2, e3, kk _ _ (fun z => by rw [z, hS] at e4; cases e4) e4, e5⟩
      · subst q
        refine ⟨s.heap.objs.size, x, y, by simp, hx, hy, by rw [upd_ne tS, upd_same], ?_⟩
        cases q0 : H0 s.heap.objs.size with
        | none => rfl
        | some o => rw [kp _ o tS q0] at hTn; cases hTn
    · exact fun c o n q => kk c o n (kp c o n q)
theorem reps_of {K : PySem.W.Frag} {T : Tp} {M : Addr → Prop} {H : Hp} : ∀ {vs : List V} {ds : List D}, vs.length = ds.length → (∀ j, j < vs.length → ∃ v d, vs[j]? = some v ∧ ds[j]? = some d ∧ Rep K T M H v d) → Reps K T M H vs ds
  | [], [], _, _ => .nil
  | [], _ :: _, h, _ => nomatch h
  | _ :: _, [], h, _ => nomatch h
  | v :: vs, d :: ds, h, q => by
    obtain ⟨v', d', e1, e2, r⟩ := q 0 (by simp)
    cases e1
    cases e2
    exact .cons r (reps_of (by simpa using h) fun j hj => by
      obtain ⟨v', d', e1, e2, r⟩ := q (j + 1) (by simpa using hj)
      exact ⟨v', d', by simpa using e1, by simpa using e2, r⟩)
/-- list(zip(a, b)) -/
def tListZip (ta : TA) : TE := fun σ H Q => ta σ H fun vs H1 => ∃ (a b : Addr) (xs ys : List V), vs = [.ref a, .ref b] ∧ H1 a = some (.lst xs) ∧ H1 b = some (.lst ys) ∧
  ∀ (p : Addr) (items : List V) (H2 : Hp), H1 p = none → H2 p = some (.lst items) → items.length = min xs.length ys.length → Pairs H1 H2 xs ys items → (∀ c o, H1 c = some o → H2 c = some o) → Q (.ref p) H2
section
variable {X : Cx}
theorem pe_listZip {e e2 : Expr} {ta : TA} {p p2 pos pos2 : Pos} (hc : X.calm = true) (hg : Gl X "list") (hm : X.mg "list" = none) (hg2 : Gl X "zip") (hm2 : X.mg "zip" = none) (ha : PA X [e, e2] ta)
    (hs : starEach [e, e2] X.env = (false, eval e X.env) :: starEach [e2] X.env := by rfl) (hpl : (backTo pos2 (starEach [e2] X.env)).any (·.1) = false := by rfl)
    (hs2 : starEach [.Call (.Name "zip" p2) [e, e2] [] pos2] X.env = (false, eval (.Call (.Name "zip" p2) [e, e2] [] pos2) X.env) :: starEach [] X.env := by rfl) :
    PE X (.Call (.Name "list" p) [.Call (.Name "zip" p2) [e, e2] [] pos2] [] pos) (tListZip ta) := by
  refine ⟨fun pins s σ H Q I h => ?_⟩
  refine Call_ (ld_blt I hg hm boot_list (PyProof.Rows.callWith_type1 (args_cons (Call_ (ld_blt I hg2 hm2 PyProof.Rows.boot_zip (PyProof.Rows.callWith_type1 (thn (ha.run pos2 pins s σ H _ I h) fun us s1 ⟨vs, H1, I1, r1, q1⟩ => ?_) hs hpl))) hs2) hs2 rfl))
  obtain ⟨a, b, xs, ys, ex, hqx, hqy, q⟩ := q1
  subst ex
  cases r1 with
  | cons r rr =>
    cases rr with
    | cons r' rr =>
      cases rr
      cases r
      cases r'
      obtain ⟨its, rv, p1, hzx⟩ := I1.list (.of hqx)
      obtain ⟨its2, rv2, p3, _⟩ := I1.list (.of hqy)
      refine call_zip_2 p1.isList p3.isList fun h' hz hTI hTO h1 h2 hsz hk => args_nil ?_
      have D := PySem.W.ktu_apart s1.heap.objs.size a b p1.lt p3.lt
      have I2 : Inv X pins σ H1 { s1 with heap := h' } := I1.kept (t' := s1.toks) hk
      have I3 := I2.lnew (ys := []) (its := []) (t' := s1.toks) .nil (Nat.zero_le _)
      have hSn : H1 h'.objs.size = none := I2.hok.fresh (Nat.le_refl _)
      refine callType_codes (Q₁ := fun obj s₁ => obj = .ref h'.objs.size ∧ s₁ = { s1 with heap := h'.push { cls := .type "list", data := .seq #[] } }) F.called_list (F.typeCall_list_1 _) F.entry_list_init
        (code_list_new _ ⟨rfl, rfl⟩) fun obj s₁ hh₁ => ?_
      obtain ⟨rfl, rfl⟩ := hh₁
      have hS : (h'.push { cls := .type "list", data := .seq #[] }).get? h'.objs.size = some { cls := .type "list", data := .seq #[] } := Heap.get?_push_size _ rfl
      refine ⟨⟨_, hS, rfl⟩, F.args_list_init_2 _ _, ?_⟩
      have k1 : ∀ b o, h'.get? b = some o → (h'.push { cls := .type "list", data := .seq #[] }).get? b = some o := fun b o e => Heap.get?_push_of_some _ e
      have up : ∀ (hh : Heap) (f : Obj → Obj), (∀ b o, h'.get? b = some o → hh.get? b = some o) → ∀ b o, h'.get? b = some o → (hh.update h'.objs.size f).get? b = some o := fun hh f q b o e =>
        (Heap.get?_update_other _ _ (Ne.symm (Nat.ne_of_lt (Heap.lt_size e)))).trans (q b o e)
      have k2 := up _ (Obj.mapSeq (fun _ => (#[] : Array Value))) k1
      have hSa : h'.objs.size ≠ s1.heap.objs.size + 4 := by omega
      show wpAny _ X.A.in1.in1 (do let old ← Builtin.List.listItems (.ref h'.objs.size); Builtin.List.listUpdate (.ref h'.objs.size) (fun _ => #[]); letGo old.toList.reverse; Builtin.List.listExtendWith (.ref h'.objs.size) (.ref (s1.heap.objs.size + 4)) .none) _ _ _
      refine wpAny_bind ?_
      unfold Builtin.List.listItems
      refine wpAny_bind (wpAny_seqItems hS rfl (wpAny_pure ?_))
      show wpAny _ X.A.in1.in1 (updateSeq h'.objs.size (fun _ => #[]) >>= fun _ => letGo (#[] : Array Value).toList.reverse >>= fun _ => Builtin.List.listExtendWith (.ref h'.objs.size) (.ref (s1.heap.objs.size + 4)) .none) _ _ _
      refine wpAny_bind (wpAny_updateSeq hS rfl ?_)
      have hS2 := Heap.get?_update_self (Obj.mapSeq (fun _ => (#[] : Array Value))) hS rfl
      refine wpAny_bind (wpAny_letGo ?_)
      unfold Builtin.List.listExtendWith
      have hzz : ∀ {hh : Heap}, (∀ b o, h'.get? b = some o → hh.get? b = some o) → IsZip hh (s1.heap.objs.size + 4) (s1.heap.objs.size + 2) (s1.heap.objs.size + 3) .none := fun {hh} q => q _ _ hz
      refine wpAny_bind (wpAny_typeOf (s := { s1 with heap := _ }) ⟨_, hzz k2, rfl⟩ ?_)
      have b1 : Builtin.List.listSameRef (.ref h'.objs.size) (.ref (s1.heap.objs.size + 4)) = false := by simp [Builtin.List.listSameRef, hSa]
      have b2 : (Value.type "zip" == Value.type "list") = false := by decide
      have b3 : (Value.type "zip" == Value.type "tuple") = false := by decide
      simp only [b1, b2, b3, Bool.or_false, Bool.false_eq_true, if_false]
      refine wpAny_bind (wpAny_pyIter_zip (s := { s1 with heap := _ }) (hzz k2) ?_)
      refine wpAny_bind (wpAny_holding ?_)
      unfold Builtin.List.listLengthHint
      refine wpAny_bind (wpAny_specialOf (s := { s1 with heap := _ }) ⟨_, hzz k2, rfl⟩ zip_no_len ?_)
      show wpAny _ X.A.in1.in1 (specialOf (Value.ref (s1.heap.objs.size + 4)) (Str.ofString "__length_hint__") >>= _) _ _ _
      refine wpAny_bind (wpAny_specialOf (s := { s1 with heap := _ }) ⟨_, hzz k2, rfl⟩ zip_no_hint ?_)
      refine wpAny_pure ?_
      show wpAny _ X.A.in1.in1 (rule "list.extend.makes-room" >>= fun _ => Builtin.List.listTouch (.ref h'.objs.size) >>= fun _ =>
        again (.builtin "list.extend.loop" ⟨[.ref h'.objs.size, .ref (s1.heap.objs.size + 4), .none], []⟩)) _ _ _
      refine wpAny_bind (wpAny_rule ?_)
      refine wpAny_bind ?_
      show wpAny _ X.A.in1.in1 (updateSeq h'.objs.size (·.push .none) >>= fun _ => updateSeq h'.objs.size (·.pop)) _ _ _
      refine wpAny_bind (wpAny_updateSeq hS2 rfl ?_)
      have hS3 := Heap.get?_update_self (Obj.mapSeq (·.push Value.none)) hS2 rfl
      refine wpAny_updateSeq (hz := by seq_fits) hS3 rfl ?_
      have hS4 := Heap.get?_update_self (Obj.mapSeq (·.pop)) hS3 rfl
      have k4 := up _ (Obj.mapSeq (·.pop)) (up _ (Obj.mapSeq (·.push Value.none)) k2)
      refine wpAny_pure ⟨plainId_quiet F.plain_extend_loop _, ?_⟩
      have ku : ∀ (hh : Heap) (f : Obj → Obj) (b : Addr) (o : Obj), b ≠ h'.objs.size → hh.get? b = some o → (hh.update h'.objs.size f).get? b = some o := fun hh f b o n e => (Heap.get?_update_other _ _ (Ne.symm n)).trans e
      have I4 : Inv X pins σ (upd (upd H1 h'.objs.size (.lst [])) h'.objs.size (.lst [])) { s1 with heap := (((h'.push { cls := .type "list", data := .seq #[] }).update h'.objs.size (Obj.mapSeq fun _ => #[])).update h'.objs.size (Obj.mapSeq (·.push Value.none))).update h'.objs.size (Obj.mapSeq (·.pop)) } :=
        I3.write (x := h'.objs.size) (e := h'.objs.size) (t' := s1.toks) (by rw [upd_same]; exact trivial) (.inl rfl) (fun b u n e => ku _ _ _ _ n (ku _ _ _ _ n (ku _ _ _ _ n e))) ⟨_, hS4⟩ ⟨Nat.zero_le _, [], _, .nil, hS4⟩
      have nS : ∀ c, H1 c ≠ none → c ≠ h'.objs.size := fun c n z => n (z ▸ hSn)
      have kH : ∀ c o, H1 c = some o → upd (upd H1 h'.objs.size (.lst [])) h'.objs.size (.lst []) c = some o := fun c o e => by
        have n := nS c (by rw [e]; simp)
        rw [upd_ne n, upd_ne n]; exact e
      have fresh5 : ∀ c, c ∈ [s1.heap.objs.size + 4, s1.heap.objs.size + 2, s1.heap.objs.size + 3, s1.heap.objs.size, s1.heap.objs.size + 1] → FpOk X pins (upd (upd H1 h'.objs.size (.lst [])) h'.objs.size (.lst [])) c := fun c hcm => by
        have hle : s1.heap.objs.size ≤ c ∧ c ≠ h'.objs.size := by
          simp only [List.mem_cons, List.not_mem_nil, or_false] at hcm
          rcases hcm with z | z | z | z | z <;> omega
        exact I1.fpOk hle.1 (by rw [upd_ne hle.2, upd_ne hle.2]; exact I1.hok.fresh hle.1)
      refine zip_drain (X := X) (pins := pins) (σ := σ) (xs := xs) (ys := ys) (H0 := H1) (B := X.A.in1) (I1.ok.hd hc) D ?_ hzx (fun s' H' items J1 J2 J3 J4 J5 => ⟨rfl, ?_⟩) (min xs.length ys.length) [] _ _ (by simp) I4 upd_same (kH _ _ hqx) (kH _ _ hqy) ⟨k4 _ _ hTI, h1.at fun o e => k4 _ o e, h2.at fun o e => k4 _ o e, .inl ⟨k4 _ _ hz, _, _, k4 _ _ hTO⟩⟩ fresh5 (fun j hj => by simp at hj) (fun c o _ e => kH c o e)
      · intro hmem
        simp only [List.mem_cons, List.not_mem_nil, or_false] at hmem
        have hsz : (h'.objs.size : Nat) = s1.heap.objs.size + 5 := hsz
        rcases hmem with z | z | z | z | z | z | z
        · exact absurd (show (h'.objs.size : Nat) = s1.heap.objs.size + 4 from z) (by omega)
        · exact absurd (show (h'.objs.size : Nat) = s1.heap.objs.size + 2 from z) (by omega)
        · exact absurd (show (h'.objs.size : Nat) = s1.heap.objs.size + 3 from z) (by omega)
        · exact absurd (show (h'.objs.size : Nat) = s1.heap.objs.size from z) (by omega)
        · exact absurd (show (h'.objs.size : Nat) = s1.heap.objs.size + 1 from z) (by omega)
        · exact absurd z.symm (Nat.ne_of_lt (Nat.lt_of_lt_of_le p1.lt (by show s1.heap.objs.size ≤ h'.objs.size; omega)))
        · exact absurd z.symm (Nat.ne_of_lt (Nat.lt_of_lt_of_le p3.lt (by show s1.heap.objs.size ≤ h'.objs.size; omega)))
      · exact ⟨.ref h'.objs.size, H', J1, rfl, q _ items H' hSn J2 J3 J4 fun c o e => J5 c o (nS c (by rw [e]; simp)) e⟩
/-- list(zip(a, b)) as data -/
theorem pp_listZip {e e2 : Expr} {fs : FEs} {p p2 pos pos2 : Pos} (hc : X.calm = true) (hg : Gl X "list") (hm : X.mg "list" = none) (hg2 : Gl X "zip") (hm2 : X.mg "zip" = none) (ha : PPA X [e, e2] fs)
    (hs : starEach [e, e2] X.env = (false, eval e X.env) :: starEach [e2] X.env := by rfl) (hpl : (backTo pos2 (starEach [e2] X.env)).any (·.1) = false := by rfl)
    (hs2 : starEach [.Call (.Name "zip" p2) [e, e2] [] pos2] X.env = (false, eval (.Call (.Name "zip" p2) [e, e2] [] pos2) X.env) :: starEach [] X.env := by rfl) :
    PP X (.Call (.Name "list" p) [.Call (.Name "zip" p2) [e, e2] [] pos2] [] pos) (wListZip fs) :=
  (pe_listZip hc hg hm hg2 hm2 ha hs hpl hs2).imp fun σ H Q ⟨g, M, env, Qd, s, q, k⟩ => ⟨g, M, env, _, s, q, fun ds vs H1 q1 g1 r1 => by
    split at q1
    · rename_i as bs
      obtain ⟨v, us, e, r, r2⟩ := r1.inv_cons
      obtain ⟨v', us', e', r', r2'⟩ := r2.inv_cons
      rw [r2'.inv_nil] at e'
      subst e' e
      have s1 := s.grow g1
      cases r with
      | @lst a xs _ h n rs => cases r' with
        | @lst b ys _ h' n' rs' =>
          refine ⟨a, b, xs, ys, rfl, h, h', fun p items H2 hp hl hlen pr kp => ?_⟩
          obtain ⟨tk, ta, tm, tc, h1, h2, h3, h4⟩ := s1.wd.tape
          have g2 : Grow X.K g.T M H1 H2 := ⟨fun c o _ e => kp c o e, tk, ta, tm, tc, kp _ _ h1, kp _ _ h2, h3, h4⟩
          refine k _ _ _ q1 (g1.trans g2) (.lst hl (s1.wd.fresh hp) ?_)
          have rs2 := s1.wd.reps g2 rs
          have rs2' := s1.wd.reps g2 rs'
          have l1 := rs.length
          have l2 := rs'.length
          refine reps_of (by simp [zipD]; omega) fun j hj => ?_
          obtain ⟨T, x, y, e1, e2, e3, e4, e5⟩ := pr j hj
          have hja : j < as.length := by
            have := (List.getElem?_eq_some_iff.mp e2).1; omega
          have hjb : j < bs.length := by
            have := (List.getElem?_eq_some_iff.mp e3).1; omega
          have ea : as[j]? = some as[j] := List.getElem?_eq_getElem hja
          have eb : bs[j]? = some bs[j] := List.getElem?_eq_getElem hjb
          obtain ⟨x', ex, rx⟩ := rs2.get ea
          obtain ⟨y', ey, ry⟩ := rs2'.get eb
          rw [e2] at ex
          rw [e3] at ey
          cases ex
          cases ey
          exact ⟨_, _, e1, zipD_get ea eb, .tup e4 (s1.wd.fresh e5) (.cons rx (.cons ry .nil))⟩
    · exact q1.elim⟩
end
end Pl
end

section
set_option Elab.async false
set_option linter.all false
set_option maxRecDepth 100000
set_option maxHeartbeats 4000000
set_option autoImplicit false
namespace Pl
open PySem PySem.Spec PyProof.Rows L2
/-! ### methods of lists that change nothing -/
def LmA (K : PySem.W.Frag) (r : V → List V → Hp → VK → Prop) (φ : Fn) : Prop :=
  ∀ (T : Tp) (M : Addr → Prop) (H : Hp) (x : V) (vs : List V) (a : List D) (ds : List D) (Q : VK) (Qd : D → Prop), Wd K T M H → BRep K T M H x (.lst a) → Reps K T M H vs ds → φ (.lst a :: ds) Qd → (∀ d v H', Qd d → Grow K T M H H' → Rep K T M H' v d → Q v H') → r x vs H Q
section
variable {X : Cx} {o e : Expr} {es : List Expr} {f : FE} {fs : FEs} {m : Str} {apos pos : Pos} {id : String} {r : V → List V → Hp → VK → Prop} {φ : Fn}
theorem pp_lm (slot : PySem.Slot "list" m id) (hty : typeOf (.builtin id) = pure (.type "method_descriptor")) (hm : MtR X id r) (hφ : LmA X.K r φ) (ho : PB X o f) (ha : PPA X (e :: es) fs)
    (hbase : attributeBase o m X.env (eval o X.env) = eval o X.env := by rfl)
    (hfew : ((backTo pos (starEach (e :: es) X.env)).all (fun x => !x.1) && (backToKw pos (keywordEach [] X.env)).all (fun x => x.1.isSome)
      && decide ((e :: es).length + ([] : List Keyword).length + (if ([] : List Keyword).isEmpty then 0 else 1) < 30)) = true := by rfl)
    (hline : (apos.endLine == pos.line) = true := by rfl) (hs : starEach (e :: es) X.env = (false, eval e X.env) :: starEach es X.env := by rfl) (hplain : (backTo pos (starEach es X.env)).any (·.1) = false := by rfl) :
    PP X (.Call (.Attribute o m apos) (e :: es) [] pos) (wLm φ f fs) :=
  (pe_bm PySem.F.plainAttrs_list slot hty hm ho ha hbase hfew hline hs hplain).imp fun σ H Q ⟨g, M, env, Qd, s, q, k⟩ => ⟨g, M, env, _, s, q, fun dx x H1 q1 g1 r1 => by
    split at q1
    · rename_i a
      have s1 := s.grow g1
      obtain ⟨l, vs, ex, hl, rs⟩ := r1.lst
      subst ex
      refine ⟨.inl ⟨rfl, vs, .of hl⟩, g, M, env, _, s1, q1, fun xs us H2 q2 g2 r2 => ?_⟩
      exact hφ g.T M H2 _ us a xs Q Qd (s1.grow g2).wd (s1.wd.brep g2 r1) r2 q2 fun d v H' a b c => k d v H' a ((g1.trans g2).trans b) c
    · exact q1.elim⟩
end
section
variable {K : PySem.W.Frag} {T : Tp} {M : Addr → Prop} {H : Hp}
theorem flat_all : ∀ {vs : List V} {ds : List D}, Reps K T M H vs ds → ds.all flatD = true → vs.all flatV = true
  | _, _, .nil, _ => rfl
  | v :: vs, d :: ds, .cons r t, f => by
    rw [List.all_cons, Bool.and_eq_true] at f ⊢
    exact ⟨r.b.flat f.1, flat_all t f.2⟩
end
theorem lm_index {K : PySem.W.Frag} : LmA K (rIndex K) bIndex := by
  intro T M H x vs a ds Q Qd w rx rs q k
  unfold bIndex at q
  split at q
  · rename_i a' y e
    cases e
    obtain ⟨fy, fa, j, hj, q⟩ := q
    obtain ⟨v, us, e, r1, r2⟩ := rs.inv_cons
    rw [r2.inv_nil] at e
    subst e
    obtain ⟨l, ws, ex, hl, rl⟩ := rx.lst
    rw [List.findIdx?_eq_some_iff_getElem] at hj
    obtain ⟨hjl, e1, e2⟩ := hj
    obtain ⟨z, hz, rz⟩ := rl.get (List.getElem?_eq_getElem hjl)
    have fz : ∀ {i : Nat} {d : D}, a[i]? = some d → flatD d = true := fun h => List.all_eq_true.mp fa _ (List.mem_of_getElem? h)
    refine ⟨l, ws, v, j, z, ex, rfl, .of hl, r1.b.flat fy, flat_all rl fa, hz, ?_, fun m z' hm hz' => ?_, k _ _ _ q (.refl w) (.int _)⟩
    · rw [eqV_deq rz r1.b (fz (List.getElem?_eq_getElem hjl)) fy]; exact e1
    · have hml : m < a.length := by omega
      obtain ⟨z2, hz2, rz2⟩ := rl.get (List.getElem?_eq_getElem hml)
      rw [hz'] at hz2
      cases hz2
      rw [eqV_deq rz2 r1.b (fz (List.getElem?_eq_getElem hml)) fy]
      simpa using e2 m hm
  · exact q.elim
/-- xs.count(y), flat items -/
def rCountF (K : PySem.W.Frag) : V → List V → Hp → VK → Prop := fun x xs H Q => ∃ (a : Addr) (ys : List V) (y : V), x = V.ref a ∧ xs = [y] ∧ SqL K H a ys ∧ flatV y = true ∧ ys.all flatV = true ∧ Q (.int (ys.countP fun z => eqV z y : Nat)) H
theorem countP_vals {y : V} : ∀ {ys : List V} {us : List Value}, Vals ys us → ys.all flatV = true → us.countP (eqU y) = ys.countP fun z => eqV z y
  | _, _, .nil, _ => rfl
  | z :: ys, u :: us, .cons r t, f => by
    rw [List.all_cons, Bool.and_eq_true] at f
    rw [List.countP_cons, List.countP_cons, countP_vals t f.2, eqU_of r f.1]
theorem mt_countF {X : Cx} : MtR X "list.count" (rCountF X.K) := by
  intro pins s σ H x xs v us Q I rx rxs h
  obtain ⟨a, ys, y, rfl, rfl, hs, fy, fys, q⟩ := h
  cases rx
  obtain ⟨u, rfl, ru⟩ := rxs.one
  obtain ⟨its, rv, ⟨⟨cls, dd, data, sl⟩, n, ho, hc, hdn, hd⟩, hlen⟩ := I.list hs
  simp only at hc hd
  subst hc hd
  refine call_meets PySem.F.slot_list_count ⟨_, ho, rfl⟩ PySem.F.entry_list_count (PySem.F.args_list_count_2 _ _)
    (SeqAt.list_countAt a its.toArray n dd sl u (eqU y)) ⟨ho, fun w hw => mem_eqAt ru fy rv fys w (by simpa using hw), ?_⟩
  have ec : its.toArray.toList.countP (eqU y) = ys.countP fun z => eqV z y := countP_vals rv fys
  refine ⟨.int (ys.countP fun z => eqV z y : Nat), H, I.tok _, ⟨s.toks, ?_⟩, q⟩
  rw [← ec]
theorem countP_reps {K : PySem.W.Frag} {T : Tp} {M : Addr → Prop} {H : Hp} {y : V} {e : D} (ry : Rep K T M H y e) (fe : flatD e = true) : ∀ {ys : List V} {ds : List D}, Reps K T M H ys ds → ds.all flatD = true → (ys.countP fun z => eqV z y) = ds.countP fun z => deq z e
  | _, _, .nil, _ => rfl
  | z :: ys, d :: ds, .cons r t, f => by
    rw [List.all_cons, Bool.and_eq_true] at f
    rw [List.countP_cons, List.countP_cons, countP_reps ry fe t f.2, eqV_deq r ry.b f.1 fe]
theorem lm_count {K : PySem.W.Frag} : LmA K (rCountF K) bCount := by
  intro T M H x vs a ds Q Qd w rx rs q k
  unfold bCount at q
  split at q
  · rename_i a' y e
    cases e
    obtain ⟨fy, fa, q⟩ := q
    obtain ⟨v, us, e, r1, r2⟩ := rs.inv_cons
    rw [r2.inv_nil] at e
    subst e
    obtain ⟨l, ws, ex, hl, rl⟩ := rx.lst
    refine ⟨l, ws, v, ex, rfl, .of hl, r1.b.flat fy, flat_all rl fa, ?_⟩
    rw [countP_reps r1 fy rl fa]
    exact k _ _ _ q (.refl w) (.int _)
  · exact q.elim
/-! ### insert -/
def rInsert : V → List V → Hp → VK → Prop := fun x vs H Q => ∃ (l : Addr) (xs : List V) (i : Int) (y : V), x = .ref l ∧ vs = [.int i, y] ∧ H l = some (.lst xs) ∧ xs.length < sizeLine ∧ 0 ≤ i ∧ i < 2 ^ 63 ∧
    Q .non (upd H l (.lst (xs.take i.toNat ++ [y] ++ xs.drop i.toNat)))
theorem m_insert {K : PySem.W.Frag} : MutA K rInsert mInsert := by
  intro tp M H l us a Q Qd ds vs w ml lT h r rs q k
  unfold mInsert at q
  split at q
  · obtain ⟨v, ws, e, r1, r2⟩ := rs.inv_cons
    obtain ⟨v', ws', e', r1', r2'⟩ := r2.inv_cons
    rw [r2'.inv_nil] at e'
    subst e'
    rw [r1.b.int] at e
    subst e
    obtain ⟨h0, h1, h2, q⟩ := q
    refine ⟨l, us, _, v', rfl, rfl, h, by rw [line_eq, r.length]; exact h2, h0, by omega, ?_⟩
    exact k _ _ _ _ q .non ((((r.take _).append (.cons r1' .nil)).append (r.drop _)).updM ml)
  · exact q.elim
end Pl
end

section
set_option Elab.async false
set_option linter.all false
set_option maxRecDepth 100000
set_option maxHeartbeats 4000000
set_option autoImplicit false
namespace Pl
open PySem PySem.Spec PyProof.Rows L2
/-! ### a set made from a list, any kind of keys -/
section
variable {Ky : Type} [DecidableEq Ky]
theorem setK_snoc (l : List Ky) (k : Ky) : setK (l ++ [k]) = addK (setK l) k := by unfold setK; rw [List.foldl_append]; rfl
theorem setK_len (l : List Ky) : (setK l).length ≤ l.length := by
  have key : ∀ (l σ : List Ky), (l.foldl addK σ).length ≤ σ.length + l.length := by
    intro l
    induction l with
    | nil => intro σ; simp
    | cons a l ih =>
      intro σ
      rw [List.foldl_cons]
      refine Nat.le_trans (ih _) ?_
      have : (addK σ a).length ≤ σ.length + 1 := by unfold addK; split <;> simp
      simp only [List.length_cons]
      omega
  have := key l []
  rw [List.length_nil, Nat.zero_add] at this
  exact this
theorem addK_mem {σ : List Ky} {k j : Ky} : j ∈ addK σ k ↔ j ∈ σ ∨ j = k := by
  unfold addK
  split
  · rename_i h
    exact ⟨.inl, fun q => q.elim id fun e => e ▸ h⟩
  · simp
theorem addK_len {σ : List Ky} {k : Ky} : (addK σ k).length = if k ∈ σ then σ.length else σ.length + 1 := by unfold addK; split <;> simp
end
section
variable {prog : Program} {w : World} {A : Around} {R : Result → Shared → Prop} {I : Addr} {fp wr : List Addr} {G : Array GenState → Array GenState → Prop} {n : Nat} {P : Nat → Value → Prop} {St : Nat → Shared → Prop} {Ky : Type} [DecidableEq Ky] [BEq Ky] [LawfulBEq Ky] {knd : KeyKind prog w Ky}
theorem set_loop (W : WalksS prog w A.in1 I fp wr G n P St) (S : Addr) (hSf : S ∉ fp) (ks : List Ky) (hl : ks.length = n) (hval : ∀ i v, P i v → ∃ k, ks[i]? = some k ∧ knd.is k v = true ∧ v.scannable = true) (hb : n + 1 < scanBound) :
    ∀ (m i : Nat) (s : Shared), n - i = m → i ≤ n → St i s → s.heap.SetOf knd S (fun k => decide (k ∈ setK (ks.take i))) (setK (ks.take i)).length →
      (∀ s', Moved (S :: wr) G s s' → s'.heap.SetOf knd S (fun k => decide (k ∈ setK ks)) (setK ks).length → R (.ok (.ret .none)) s') →
      codeAny (model prog w) A (.builtin "set.update.loop" ⟨[.ref S, .ref I], []⟩) R s := by
  have hSw : S ∉ wr := fun h => hSf (W.sub _ h)
  have sub : ∀ b ∈ wr, b ∈ S :: wr := fun b hb => List.mem_cons_of_mem _ hb
  intro m
  induction m with
  | zero =>
    intro i s hm hi hst hS hR
    have e : i = n := by omega
    subst e
    rw [List.take_of_length_le (by omega)] at hS
    refine codeAny_builtin F.entry_set_update_loop ?_
    rw [Around.under_plainId F.plain_set_update_loop _]
    show wpAny _ A.in1 (pyNext (.ref I) >>= _) _ _ s
    refine wpAny_bind (W.done s _ _ hst fun s' mv => ?_)
    show wpAny _ A.in1 (ret Value.none) _ _ s'
    refine wpAny_pure (hR s' (mv.mono sub) ?_)
    obtain ⟨o, es, ep, t, ho, q⟩ := hS
    exact ⟨o, es, ep, t, mv.heap S _ hSw ho, q⟩
  | succ m ih =>
    intro i s hm hi hst hS hR
    have hlt : i < n := by omega
    refine codeAny_builtin F.entry_set_update_loop ?_
    rw [Around.under_plainId F.plain_set_update_loop _]
    show wpAny _ A.in1 (pyNext (.ref I) >>= _) _ _ s
    refine wpAny_bind (W.item i s _ _ hlt hst fun v s' hP hst' mv => ?_)
    obtain ⟨k, hk, isk, sck⟩ := hval i v hP
    have hS' : s'.heap.SetOf knd S (fun k => decide (k ∈ setK (ks.take i))) (setK (ks.take i)).length := by
      obtain ⟨o, es, ep, t, ho, q⟩ := hS
      exact ⟨o, es, ep, t, mv.heap S _ hSw ho, q⟩
    show wpAny _ A.in1 (holding [v] (setAdd S v) >>= _) _ _ s'
    refine wpAny_bind (wpAny_holding ?_)
    unfold setAdd
    refine wpAny_holding ?_
    refine wpAny_bind (knd.pyHash (k := k) isk ?_)
    have room : (setK (ks.take i)).length + 1 < scanBound := by
      have := setK_len (ks.take i)
      rw [List.length_take] at this
      omega
    refine wpAny_setAddHashed_of (knd := knd) (s := { s' with toks := s'.toks + 1 }) isk sck hS' room fun h' sb hS2 => ?_
    have et : ks.take (i + 1) = ks.take i ++ [k] := by rw [List.take_add_one, hk]; rfl
    have hS3 : h'.SetOf knd S (fun j => decide (j ∈ setK (ks.take (i + 1)))) (setK (ks.take (i + 1))).length := by
      refine SetOf_congr hS2 (fun j => ?_) ?_
      · rw [et, setK_snoc]
        simp only [addK_mem, Bool.decide_or]
      · rw [et, setK_snoc, addK_len]
        by_cases c : k ∈ setK (ks.take i)
        · rw [if_pos (decide_eq_true c), if_pos c]
        · rw [if_neg (by simpa using c), if_neg c]
    refine wpAny_pure ⟨plainId_quiet F.plain_set_update_loop _, ih (i + 1) _ (by omega) hlt (W.frame _ s' _ _ hst' (Nat.le_succ _) fun b hb o e => ?_) hS3 fun s2 mv2 hS4 => ?_⟩
    · rw [sb.2 b (fun z : b = S => hSf (z ▸ hb))]; exact e
    · refine hR s2 (Moved.trans W.gtrans ((mv.mono sub).then_heap (Nat.le_succ _) fun b o hb e => ?_) mv2) hS4
      rw [sb.2 b (fun z : b = S => hb (by rw [z]; exact List.mem_cons_self))]; exact e
end
section
variable {prog : Program} {w : World} {A : Around} {E : Value → Shared → Prop} {s : Shared} {Ky : Type} [DecidableEq Ky] [BEq Ky] [LawfulBEq Ky] {knd : KeyKind prog w Ky}
/-- set(xs), xs a list of keys -/
theorem call_set_keys {l : Addr} {items : Array Value} {ks : List Ky} {Q : Value → Shared → Prop} (hh : A.handled = none) (hl : s.heap.IsList l items) (hn : ks.length = items.size) (hv : ∀ (i : Nat) (v : Value), items[i]? = some v → ∃ k, ks[i]? = some k ∧ knd.is k v = true ∧ v.scannable = true) (hb : items.size + 1 < scanBound)
    (h : ∀ (h' : Heap) (tk : Nat), h'.SetOf knd s.heap.objs.size (fun k => decide (k ∈ setK ks)) (setK ks).length → (∀ b o, b < s.heap.objs.size → s.heap.get? b = some o → h'.get? b = some o) → Q (.ref s.heap.objs.size) { s with heap := h', toks := tk }) :
    wpAny (model prog w) A (call (.type "set") [.ref l]) Q E s := by
  obtain ⟨c, tl, hmro⟩ := F.called_set.mro
  have hmade := F.called_set.made
  have hsub := F.called_set.sub
  refine wpAny_call (codeAny_of_tree ?_)
  show wpAny _ _ (callAny (.type "set") _) _ _ _
  refine wpAny_pure ⟨Code.quiet_builtin _ (by decide +kernel), codeAny_builtin F.entry_type_call ?_⟩
  rw [Around.under_plain (weight_type_call_type "set" [.ref l] []) rfl]
  have h1 := F.called_set.notType
  have h2 := F.called_set.canCreate
  have hct := F.typeCall_set_1 (.ref l)
  repeat (any_goals (first | assumption | wp_step))
  refine codeAny_mono (code_set_new_1 (.ref l) (E := E) (Q₁ := fun obj s₁ => ∃ led : Bool, obj = .ref s.heap.objs.size ∧ s₁ = { s with heap := s.heap.push { cls := .type "set", dict := none, data := .set #[] 0 (.fresh 0 0 led) } }) fun led => ⟨led, rfl, rfl⟩) fun r s₁ hr => ?_
  cases r with
  | error e => exact hr
  | ok fl =>
    cases fl with
    | ret obj =>
      obtain ⟨led, rfl, rfl⟩ := hr
      have hS : (s.heap.push { cls := .type "set", dict := none, data := .set #[] 0 (.fresh 0 0 led) }).get? s.heap.objs.size = some { cls := .type "set", dict := none, data := .set #[] 0 (.fresh 0 0 led) } := Heap.get?_push_size _ rfl
      have hT : Shared.TypeIs { s with heap := s.heap.push { cls := .type "set", dict := none, data := .set #[] 0 (.fresh 0 0 led) } } (.ref s.heap.objs.size) "set" := ⟨_, hS, rfl⟩
      have hli := F.called_set.init.lookup
      have hbi := F.called_set.init.bind (.ref s.heap.objs.size)
      repeat (any_goals (first | assumption | wp_step))
      refine codeAny_mono (codeAny_call_builtin (R := wants (fun r s₂ => r = .none ∧ ∃ h' tk, s₂ = { s with heap := h', toks := tk } ∧ h'.SetOf knd s.heap.objs.size (fun k => decide (k ∈ setK ks)) (setK ks).length ∧
          (∀ b o, b < s.heap.objs.size → s.heap.get? b = some o → h'.get? b = some o)) E) F.called_set.init.plain F.entry_set_init (check_set_init_1 hT ?_)) fun r₂ s₂ hr₂ => ?_
      · obtain ⟨⟨ocls, odict, odata, oslots⟩, hol, hcl, nl, hdl⟩ := id hl
        simp only at hcl hdl
        subst hcl hdl
        have hol' := Heap.get?_push_of_some { cls := .type "set", dict := none, data := .set #[] 0 (.fresh 0 0 led) } hol
        have e1 := F.sub_list_set
        have e2 := F.sub_list_frozenset
        have e3 : (Value.type "list" == Value.type "dict") = false := by decide
        have hl1 := hl.push { cls := .type "set", dict := none, data := .set #[] 0 (.fresh 0 0 led) }
        unfold Builtin.«set.__init__» noKeywords Builtin.Frozenset.updateFrom
        generalize hPI : pyIter = PI
        wp_walk
        subst hPI
        refine wpAny_pyIter_list hl1 ?_
        refine wpAny_bind (wpAny_runValue ?_)
        have lS : l < s.heap.objs.size := Heap.lt_size hol
        have sz : (s.heap.push { cls := .type "set", dict := none, data := .set #[] 0 (.fresh 0 0 led) }).objs.size = s.heap.objs.size + 1 := Heap.size_push _ _
        have nI : l ≠ (s.heap.push { cls := .type "set", dict := none, data := .set #[] 0 (.fresh 0 0 led) }).objs.size := by rw [sz]; exact Nat.ne_of_lt (Nat.lt_succ_of_lt lS)
        have nf : s.heap.objs.size ∉ [(s.heap.push { cls := .type "set", dict := none, data := .set #[] 0 (.fresh 0 0 led) }).objs.size, l] := by
          rw [sz]; simp only [List.mem_cons, List.not_mem_nil, or_false, not_or]
          exact ⟨Nat.ne_of_lt (Nat.lt_succ_self _), Nat.ne_of_gt lS⟩
        refine set_loop (knd := knd) ((Walks.list (by simp [hh]) _ l nI items).toS) s.heap.objs.size nf ks hn hv hb (items.size - 0) 0 _ (by omega) (Nat.zero_le _) ⟨⟨_, Heap.get?_push_size _ rfl, rfl, rfl⟩, (hl1.push _)⟩ ?_ ?_
        · have g := Heap.get?_push_of_some { cls := .type "list_iterator", data := .fields #[.ref l, .int 0 0] } hS
          exact SetOf_congr ((setObjOf_fresh (knd := knd) led).setOf g (show (0 : Nat) < scanBound by unfold scanBound; omega)) (fun _ => rfl) rfl
        · intro s' hm hS'
          obtain ⟨h', g', d', tk', os'⟩ := s'
          have eg : g' = s.gens := hm.gens
          have ed : d' = s.drawn := hm.drawn
          have eo : os' = s.os := hm.os
          subst eg ed eo
          show wpAny _ _ _ _ _ _
          refine wpAny_pure ?_
          show wpAny _ _ (ret Value.none) _ _ _
          refine wpAny_pure ⟨rfl, h', tk', rfl, hS', fun b o hb e => hm.heap b o ?_ (Heap.get?_push_of_some _ (Heap.get?_push_of_some _ e))⟩
          simp only [List.mem_cons, List.not_mem_nil, or_false, not_or]
          exact ⟨Nat.ne_of_lt hb, by rw [sz]; exact Nat.ne_of_lt (Nat.lt_succ_of_lt hb)⟩
      · cases r₂ with
        | error e => exact hr₂
        | ok fl₂ =>
          cases fl₂ with
          | ret r =>
            obtain ⟨rfl, h', tk, rfl, hS', hk'⟩ := hr₂
            repeat (any_goals (first | assumption | wp_step))
            exact h _ _ hS' hk'
          | _ => exact hr₂.elim
    | _ => exact hr.elim
end
/-! ### len(set(xs)) -/
def tLenSetK (K : PySem.W.Frag) (ta : TE) : TE := fun σ H Q => ta σ H fun x H1 => ∃ l, x = .ref l ∧ ((∃ ns : List Int, SqL K H1 l (ns.map V.int) ∧ ns.length ≤ 1000 ∧ Q (.int (setK ns).length) H1) ∨ ∃ ns : List Str, SqL K H1 l (ns.map V.str) ∧ ns.length ≤ 1000 ∧ Q (.int (setK ns).length) H1)
section
variable {X : Cx}
theorem pe_lenSetK {a : Expr} {ta : TE} {p p2 q pos : Pos} (hc : X.calm = true) (hg : Gl X "len") (hm : X.mg "len" = none) (hg2 : Gl X "set") (hm2 : X.mg "set" = none) (ha : PE X a ta)
    (na : starEach [a] X.env = (false, eval a X.env) :: starEach [] X.env := by rfl) : PE X (.Call (.Name "len" p) [.Call (.Name "set" p2) [a] [] q] [] pos) (tLenSetK X.K ta) := by
  refine ⟨fun pins s σ H Q I h => ?_⟩
  refine Call_ (ld_blt I hg hm PySem.boot_len ?_)
  refine PyProof.Rows.callWith_builtin1 (PyProof.Rows.args_cons ?_ rfl) rfl rfl
  refine Call_ (ld_blt I hg2 hm2 PyProof.Rows.boot_set ?_)
  refine PyProof.Rows.callWith_type1 (PyProof.Rows.args_cons (thn (ha.run pins s σ H _ I h) fun v s1 ⟨x, H1, I1, r1, q1⟩ => PyProof.Rows.args_nil ?_) na) na rfl
  obtain ⟨l, rfl, q1⟩ := q1
  cases r1
  have fin : ∀ {Ky : Type} [DecidableEq Ky] [BEq Ky] [LawfulBEq Ky] (knd : KeyKind X.prog X.w Ky) (ks : List Ky) (h' : Heap) (tk : Nat), ks.length ≤ 1000 → Q (.int (setK ks).length) H1 → h'.SetOf knd s1.heap.objs.size (fun k => decide (k ∈ setK ks)) (setK ks).length →
      (∀ b o, b < s1.heap.objs.size → s1.heap.get? b = some o → h'.get? b = some o) →
      wpAny (model X.prog X.w) X.A (spliced (backTo pos (starEach [] X.env))) (fun vs s₂ => wpAny (model X.prog X.w) X.A (call (.builtin "len") (Value.ref s1.heap.objs.size :: vs)) (EP X pins σ Q) X.xe s₂) X.xe { s1 with heap := h', toks := tk } := by
    intro Ky _ _ _ knd ks h' tk hle qq hS hk
    refine PyProof.Rows.args_nil ?_
    have := setK_len ks
    obtain ⟨o, es, ep, t, ho, hex, hd, _, _, _, hf, hn⟩ := hS
    have I2 : Inv X pins σ H1 { s1 with heap := h', toks := tk } := I1.kept fun b o e => hk b o (Heap.lt_size e) e
    exact call_len_set ho hex hd hf (by rw [hn] <;> omega) ⟨.int (setK ks).length, H1, I2.tok _, ⟨_, by rw [hn]⟩, qq⟩
  rcases q1 with ⟨ns, hq, hle, q1⟩ | ⟨ns, hq, hle, q1⟩
  · obtain ⟨its, r, pl, hz⟩ := I1.list hq
    have hlen : ns.length = its.toArray.size := by rw [List.size_toArray, ← r.length, List.length_map]
    refine call_set_keys (knd := intKind X.prog X.w) (ks := ns) (I1.ok.hd hc) pl.isList hlen (fun i v hv => ?_) (by unfold scanBound; omega) fun h' tk hS hk => fin _ ns h' tk hle q1 hS hk
    have hv' : its[i]? = some v := by simpa using hv
    have hi : i < ns.length := by rw [hlen]; simpa using (List.getElem?_eq_some_iff.mp hv').1
    obtain ⟨u, hu, t, hu'⟩ := r.get (i := i) (x := .int ns[i]) (by simp [hi])
    rw [hv'] at hu
    cases hu
    subst hu'
    exact ⟨ns[i], List.getElem?_eq_getElem hi, intKind_is _ _ _ _, rfl⟩
  · obtain ⟨its, r, pl, hz⟩ := I1.list hq
    have hlen : ns.length = its.toArray.size := by rw [List.size_toArray, ← r.length, List.length_map]
    refine call_set_keys (knd := strKind X.prog X.w) (ks := ns) (I1.ok.hd hc) pl.isList hlen (fun i v hv => ?_) (by unfold scanBound; omega) fun h' tk hS hk => fin _ ns h' tk hle q1 hS hk
    have hv' : its[i]? = some v := by simpa using hv
    have hi : i < ns.length := by rw [hlen]; simpa using (List.getElem?_eq_some_iff.mp hv').1
    obtain ⟨u, hu, t, hu'⟩ := r.get (i := i) (x := .str ns[i]) (by simp [hi])
    rw [hv'] at hu
    cases hu
    subst hu'
    exact ⟨ns[i], List.getElem?_eq_getElem hi, strKind_is _ _ _ _, rfl⟩
theorem strs_reps {K : PySem.W.Frag} {T : Tp} {M : Addr → Prop} {H : Hp} : ∀ {vs : List V} {ds : List D} {ns : List Str}, Reps K T M H vs ds → strsD ds = some ns → vs = ns.map V.str
  | _, _, ns, .nil, h => by cases h; rfl
  | v :: vs, d :: ds, ns, .cons r t, h => by
    cases d <;> simp [strsD] at h
    rename_i i
    obtain ⟨ns', h', rfl⟩ := h
    rw [r.b.str, strs_reps t h']; rfl
theorem pp_lenSet {a : Expr} {f : FE} {p p2 q pos : Pos} (hc : X.calm = true) (hg : Gl X "len") (hm : X.mg "len" = none) (hg2 : Gl X "set") (hm2 : X.mg "set" = none) (ha : PB X a f)
    (na : starEach [a] X.env = (false, eval a X.env) :: starEach [] X.env := by rfl) : PP X (.Call (.Name "len" p) [.Call (.Name "set" p2) [a] [] q] [] pos) (wLenSet f) :=
  (pe_lenSetK hc hg hm hg2 hm2 ha na).imp fun σ H Q ⟨g, M, env, Qd, s, q, k⟩ => ⟨g, M, env, _, s, q, fun d v H1 q1 g1 r1 => by
    split at q1
    · rename_i a
      obtain ⟨l, vs, ex, hl, rs⟩ := r1.lst
      subst ex
      obtain ⟨hle, n, hn, q1⟩ := q1
      have hlen := rs.length
      refine ⟨l, rfl, ?_⟩
      unfold dedLen at hn
      cases hi : intsD a with
      | some ns =>
        rw [hi] at hn
        cases hn
        have e := ints_reps rs hi
        subst e
        exact .inl ⟨ns, .of hl, (by have z : (ns.map V.int).length ≤ 1000 := (by omega); rw [List.length_map] at z; exact z), k _ _ _ q1 g1 (.int _)⟩
      | none =>
        rw [hi] at hn
        obtain ⟨ns, hs, rfl⟩ := Option.map_eq_some_iff.mp hn
        have e := strs_reps rs hs
        subst e
        exact .inr ⟨ns, .of hl, (by have z : (ns.map V.str).length ≤ 1000 := (by omega); rw [List.length_map] at z; exact z), k _ _ _ q1 g1 (.int _)⟩
    · exact q1.elim⟩
end
/-! ### constants that are ints -/
open PySem.W He in
def kInt (x : Str) (i : Int) : KB := fun K => (He.Fa.int x i).ok K
structure CstI (mg : Str → Option Value) (x : Str) (i : Int) : Prop where
  ex : ∃ t, mg x = some (.int i t)
theorem csti_of {K : PySem.W.Frag} {h : Heap} {mg : Str → Option Value} {bs : List KB} {fn : List He.DefD} (X : K.In h) (G : h.Ns mainGlobals mg) (c : SaysB bs fn K) (j : Nat) {x : Str} {i : Int} (e2 : bs[j]? = some (kInt x i) := by rfl) : CstI mg x i := ⟨He.int_ok X G (c.fact j e2)⟩
theorem pp_csti {X : Cx} {x : Str} {i : Int} {pos : Pos} (c : CstI X.mg x i) (hg : Gl X x) (hd : (x == ("__debug__" : Str)) = false := by decide) : PP X (.Name x pos) (wC (.int i)) := by
  obtain ⟨t, hm⟩ := c.ex
  exact pp_glob (v := .int i) hg hm ⟨t, rfl⟩ (fun _ _ _ => .int i) hd
end Pl
end

section
set_option linter.all false
set_option maxRecDepth 100000
set_option autoImplicit false
/-! fractions as data, sizes; no program -/
namespace Pl
open PySem
theorem ifF {c : Prop} [Decidable c] {A B : Prop} (h : ¬ c) (q : B) : if c then A else B := by rw [if_neg h]; exact q
theorem ifT {c : Prop} [Decidable c] {A B : Prop} (h : c) (q : A) : if c then A else B := by rw [if_pos h]; exact q
/-- a fraction as data -/
def fr (q : Rat) : D := .tup [.int q.num, .int q.den]
theorem fr_inj {a b : Rat} : fr a = fr b ↔ a = b := by
  constructor
  · intro h
    simp only [fr, D.tup.injEq, List.cons.injEq, D.int.injEq, and_true, Int.natCast_inj] at h
    exact Rat.ext h.1 h.2
  · rintro rfl; rfl
theorem fr_def (a : Rat) : D.tup [.int a.num, .int a.den] = fr a := rfl
theorem fr_neg (a : Rat) : D.tup [.int (-a.num), .int a.den] = fr (-a) := by simp [fr]
theorem fr_neg' (a : Rat) : D.tup [.int (0 - a.num), .int a.den] = fr (-a) := by simp [fr]
theorem fr_int (n : Int) : D.tup [.int n, .int 1] = fr (n : Rat) := by simp [fr]
theorem ix0 (a : Rat) (Q : D → Prop) : dIx (fr a) (.int 0) Q = Q (.int a.num) := by simp [dIx, fr, ixD]
theorem ix1 (a : Rat) (Q : D → Prop) : dIx (fr a) (.int 1) Q = Q (.int a.den) := by simp [dIx, fr, ixD]
theorem deq_fr (a b : Rat) : deq (fr a) (fr b) = decide (a = b) := by
  simp only [fr, deq, deqs, Bool.and_true]
  by_cases h : a = b
  · subst h; simp
  · rw [decide_eq_false h]
    simp only [Bool.and_eq_false_iff, beq_eq_false_iff_ne, ne_eq]
    by_cases h1 : a.num = b.num
    · right
      intro h2
      exact h (Rat.ext h1 (by exact_mod_cast h2))
    · exact .inl h1
theorem plain_fr (n : Nat) (a : Rat) : plain (n + 1) (fr a) = true := by simp [fr, plain, plains]
theorem plain_fr20 (a : Rat) : plain 20 (fr a) = true := plain_fr 19 a
/-! ### texts -/
theorem okStr_lit (t : String) : okStr (Str.ofString t) = true := by
  unfold okStr Str.ofString
  rw [cpsOfBytes_string]
  simp only [List.all_toArray, List.all_eq_true, List.mem_map, decide_eq_true_eq, forall_exists_index, and_imp, forall_apply_eq_imp_iff₂]
  intro c _
  have h := c.valid
  have ht : c.toNat = c.val.toNat := rfl
  simp only [UInt32.isValidChar, Nat.isValidChar] at h
  omega
theorem ofString_inj (s t : String) : (Str.ofString s = Str.ofString t) = (s = t) := by
  apply propext
  constructor
  · intro h
    unfold Str.ofString at h
    rw [cpsOfBytes_string, cpsOfBytes_string] at h
    have h1 : s.toList.map Char.toNat = t.toList.map Char.toNat := by simpa using h
    have h2 : s.toList = t.toList := by
      apply (List.map_inj_right (f := Char.toNat) ?_).mp h1
      intro a b e
      exact Char.ext (UInt32.toNat_inj.mp e)
    exact String.toList_inj.mp h2
  · rintro rfl; rfl
theorem beq_lit (s t : String) : (Str.ofString s == Str.ofString t) = decide (s = t) := by
  by_cases h : s = t
  · subst h; simp
  · rw [decide_eq_false h, beq_eq_false_iff_ne, Ne, ofString_inj]; exact h
/-! ### equality, by kinds -/
theorem isNon_non : isNon .non = true := rfl
theorem isNon_bl {b : Bool} : isNon (.bl b) = false := rfl
theorem isNon_int {b : Int} : isNon (.int b) = false := rfl
theorem isNon_str {b : Str} : isNon (.str b) = false := rfl
theorem isNon_tup {b : List D} : isNon (.tup b) = false := rfl
theorem isNon_lst {b : List D} : isNon (.lst b) = false := rfl
theorem isNon_fr {b : Rat} : isNon (fr b) = false := rfl
theorem deq_non_non  : deq .non .non = true := by simp [deq]
theorem deq_non_bl {b : Bool} : deq .non (.bl b) = false := by simp [deq]
theorem deq_non_int {j : Int} : deq .non (.int j) = false := by simp [deq]
theorem deq_non_str {t : Str} : deq .non (.str t) = false := by simp [deq]
theorem deq_non_tup {ys : List D} : deq .non (.tup ys) = false := by simp [deq]
theorem deq_non_lst {ys : List D} : deq .non (.lst ys) = false := by simp [deq]
theorem deq_bl_non {a : Bool} : deq (.bl a) .non = false := by simp [deq]
theorem deq_bl_bl {a : Bool} {b : Bool} : deq (.bl a) (.bl b) = (a == b) := by simp [deq]
theorem deq_bl_str {a : Bool} {t : Str} : deq (.bl a) (.str t) = false := by simp [deq]
theorem deq_bl_tup {a : Bool} {ys : List D} : deq (.bl a) (.tup ys) = false := by simp [deq]
theorem deq_bl_lst {a : Bool} {ys : List D} : deq (.bl a) (.lst ys) = false := by simp [deq]
theorem deq_int_non {i : Int} : deq (.int i) .non = false := by simp [deq]
theorem deq_int_int {i : Int} {j : Int} : deq (.int i) (.int j) = decide (i = j) := by by_cases h : i = j <;> simp [deq, h]
theorem deq_int_str {i : Int} {t : Str} : deq (.int i) (.str t) = false := by simp [deq]
theorem deq_int_tup {i : Int} {ys : List D} : deq (.int i) (.tup ys) = false := by simp [deq]
theorem deq_int_lst {i : Int} {ys : List D} : deq (.int i) (.lst ys) = false := by simp [deq]
theorem deq_str_non {s : Str} : deq (.str s) .non = false := by simp [deq]
theorem deq_str_bl {b : Bool} {s : Str} : deq (.str s) (.bl b) = false := by simp [deq]
theorem deq_str_int {j : Int} {s : Str} : deq (.str s) (.int j) = false := by simp [deq]
theorem deq_str_str {s : Str} {t : Str} : deq (.str s) (.str t) = (s == t) := by simp [deq]
theorem deq_str_tup {s : Str} {ys : List D} : deq (.str s) (.tup ys) = false := by simp [deq]
theorem deq_str_lst {s : Str} {ys : List D} : deq (.str s) (.lst ys) = false := by simp [deq]
theorem deq_tup_non {xs : List D} : deq (.tup xs) .non = false := by simp [deq]
theorem deq_tup_bl {b : Bool} {xs : List D} : deq (.tup xs) (.bl b) = false := by simp [deq]
theorem deq_tup_int {j : Int} {xs : List D} : deq (.tup xs) (.int j) = false := by simp [deq]
theorem deq_tup_str {t : Str} {xs : List D} : deq (.tup xs) (.str t) = false := by simp [deq]
theorem deq_tup_tup {xs : List D} {ys : List D} : deq (.tup xs) (.tup ys) = deqs xs ys := by simp [deq]
theorem deq_tup_lst {xs : List D} {ys : List D} : deq (.tup xs) (.lst ys) = false := by simp [deq]
theorem deq_lst_non {xs : List D} : deq (.lst xs) .non = false := by simp [deq]
theorem deq_lst_bl {b : Bool} {xs : List D} : deq (.lst xs) (.bl b) = false := by simp [deq]
theorem deq_lst_int {j : Int} {xs : List D} : deq (.lst xs) (.int j) = false := by simp [deq]
theorem deq_lst_str {t : Str} {xs : List D} : deq (.lst xs) (.str t) = false := by simp [deq]
theorem deq_lst_tup {xs : List D} {ys : List D} : deq (.lst xs) (.tup ys) = false := by simp [deq]
theorem deq_lst_lst {xs : List D} {ys : List D} : deq (.lst xs) (.lst ys) = deqs xs ys := by simp [deq]
theorem deq_bl_int {a : Bool} {j : Int} : deq (.bl a) (.int j) = ((if a then 1 else 0) == j) := by simp [deq]
theorem deq_int_bl {a : Bool} {j : Int} : deq (.int j) (.bl a) = (j == (if a then 1 else 0)) := by simp [deq]
theorem deqs_nil : deqs [] [] = true := by simp [deqs]
theorem deqs_cons {x y : D} {xs ys : List D} : deqs (x :: xs) (y :: ys) = (deq x y && deqs xs ys) := by simp [deqs]
theorem deqs_nil_cons {y : D} {ys : List D} : deqs [] (y :: ys) = false := by simp [deqs]
theorem deqs_cons_nil {y : D} {ys : List D} : deqs (y :: ys) [] = false := by simp [deqs]
theorem deq_fr_non {a : Rat} : deq (fr a) .non = false := by simp [deq, fr]
theorem deq_non_fr {a : Rat} : deq .non (fr a) = false := by simp [deq, fr]
theorem plain_non {n : Nat} : plain n .non = true := by cases n <;> rfl
theorem plain_bl {n : Nat} {b : Bool} : plain n (.bl b) = true := by cases n <;> rfl
theorem plain_int {n : Nat} {b : Int} : plain n (.int b) = true := by cases n <;> rfl
theorem plain_lit {n : Nat} {t : String} : plain n (.str (Str.ofString t)) = true := by cases n <;> exact okStr_lit t
theorem plain_lst {n : Nat} {xs : List D} : plain (n + 1) (.lst xs) = plains n xs := rfl
theorem plain_tup {n : Nat} {xs : List D} : plain (n + 1) (.tup xs) = plains n xs := rfl
theorem plains_nil {n : Nat} : plains n [] = true := rfl
theorem plains_cons {n : Nat} {x : D} {xs : List D} : plains n (x :: xs) = (plain n x && plains n xs) := rfl
theorem plain_lst20 {xs : List D} : plain 20 (.lst xs) = plains 19 xs := rfl
theorem plain_tup20 {xs : List D} : plain 20 (.tup xs) = plains 19 xs := rfl
theorem plain_lst19 {xs : List D} : plain 19 (.lst xs) = plains 18 xs := rfl
theorem plain_tup19 {xs : List D} : plain 19 (.tup xs) = plains 18 xs := rfl
theorem plain_tup18 {xs : List D} : plain 18 (.tup xs) = plains 17 xs := rfl
theorem plain_fr19 (a : Rat) : plain 19 (fr a) = true := plain_fr 18 a
theorem plain_fr18 (a : Rat) : plain 18 (fr a) = true := plain_fr 17 a
theorem plains_all {n : Nat} {xs : List D} (h : ∀ x ∈ xs, plain n x = true) : plains n xs = true := by
  induction xs with
  | nil => rfl
  | cons x xs ih => rw [plains_cons, h x List.mem_cons_self, ih fun y hy => h y (List.mem_cons_of_mem _ hy)]; rfl
theorem plains_map {α : Type} {n : Nat} {f : α → D} {xs : List α} (h : ∀ x, plain n (f x) = true) : plains n (xs.map f) = true := plains_all fun x hx => by obtain ⟨y, _, rfl⟩ := List.mem_map.mp hx; exact h y
theorem deqs_map {α : Type} [DecidableEq α] {f : α → D} (h : ∀ a b, deq (f a) (f b) = decide (a = b)) : ∀ xs ys : List α, deqs (xs.map f) (ys.map f) = decide (xs = ys)
  | [], [] => by simp [deqs]
  | [], _ :: _ => by simp [deqs]
  | _ :: _, [] => by simp [deqs]
  | x :: xs, y :: ys => by
    rw [List.map_cons, List.map_cons, deqs_cons, h, deqs_map h xs ys]
    by_cases e : x = y <;> simp [e]
theorem deqs_frs (xs ys : List Rat) : deqs (xs.map fr) (ys.map fr) = decide (xs = ys) := deqs_map deq_fr xs ys
theorem plains_frs (n : Nat) (xs : List Rat) : plains (n + 1) (xs.map fr) = true := plains_map fun _ => plain_fr n _
theorem plains_frs19 (xs : List Rat) : plains 19 (xs.map fr) = true := plains_frs 18 xs
/-! ### sizes -/
structure Sz (n : Nat) (q : Rat) : Prop where
  num : q.num.natAbs < 2 ^ n
  den : q.den < 2 ^ n
theorem pow_mono {m n : Nat} (h : m ≤ n) : 2 ^ m ≤ 2 ^ n := Nat.pow_le_pow_right (by decide) h
theorem Sz.mono {m n : Nat} {q : Rat} (h : Sz m q) (hm : m ≤ n) : Sz n q := ⟨Nat.lt_of_lt_of_le h.num (pow_mono hm), Nat.lt_of_lt_of_le h.den (pow_mono hm)⟩
theorem Sz.neg {n : Nat} {q : Rat} (h : Sz n q) : Sz n (-q) := ⟨by simpa using h.num, by simpa using h.den⟩
theorem divInt_sz {n : Nat} {a b : Int} (ha : a.natAbs < 2 ^ n) (hb : b.natAbs < 2 ^ n) (h0 : 1 ≤ n) : Sz n (Rat.divInt a b) := by
  refine ⟨?_, ?_⟩
  · rw [Rat.num_divInt]
    refine Nat.lt_of_le_of_lt ?_ ha
    have h1 : (b.sign * a / (b.gcd a : Int)).natAbs ≤ (b.sign * a).natAbs := Int.natAbs_ediv_le_natAbs _ _
    have h2 : (b.sign * a).natAbs ≤ a.natAbs := by
      rw [Int.natAbs_mul]
      have : b.sign.natAbs ≤ 1 := by
        rcases Int.lt_trichotomy b 0 with h | h | h
        · rw [Int.sign_eq_neg_one_of_neg h]; decide
        · subst h; decide
        · rw [Int.sign_eq_one_of_pos h]; decide
      calc b.sign.natAbs * a.natAbs ≤ 1 * a.natAbs := Nat.mul_le_mul_right _ this
        _ = a.natAbs := Nat.one_mul _
    exact Nat.le_trans h1 h2
  · rw [Rat.den_divInt]
    split
    · exact Nat.lt_of_lt_of_le (by decide : 1 < 2 ^ 1) (pow_mono h0)
    · exact Nat.lt_of_le_of_lt (Nat.div_le_self _ _) hb
theorem natAbs_mul_lt {a b : Int} {m n : Nat} (ha : a.natAbs < 2 ^ m) (hb : b.natAbs < 2 ^ n) : (a * b).natAbs < 2 ^ (m + n) := by
  rw [Int.natAbs_mul, Nat.pow_add]
  exact Nat.mul_lt_mul'' ha hb
theorem add_eq_divInt (a b : Rat) : a + b = Rat.divInt (a.num * b.den + b.num * a.den) (a.den * b.den : Nat) := by rw [Rat.divInt_ofNat]; exact Rat.add_def' a b
theorem sub_eq_divInt (a b : Rat) : a - b = Rat.divInt (a.num * b.den - b.num * a.den) (a.den * b.den : Nat) := by rw [Rat.divInt_ofNat]; exact Rat.sub_def' a b
theorem mul_eq_divInt (a b : Rat) : a * b = Rat.divInt (a.num * b.num) (a.den * b.den : Nat) := by rw [Rat.divInt_ofNat]; exact Rat.mul_def' a b
theorem div_eq_divInt (a b : Rat) : a / b = Rat.divInt (a.num * b.den) (a.den * b.num) := by
  rw [Rat.div_def, Rat.inv_def, ← Rat.num_divInt_den a, Rat.divInt_mul_divInt, Rat.num_divInt_den]
theorem den_lt {n : Nat} {q : Rat} (h : Sz n q) : ((q.den : Int)).natAbs < 2 ^ n := by simpa using h.den
theorem Sz.add {m n : Nat} {a b : Rat} (ha : Sz m a) (hb : Sz n b) : Sz (m + n + 1) (a + b) := by
  rw [add_eq_divInt]
  refine divInt_sz ?_ ?_ (by omega)
  · have h1 := natAbs_mul_lt ha.num (den_lt hb)
    have h2 := natAbs_mul_lt hb.num (den_lt ha)
    have h3 : 2 ^ (m + n + 1) = 2 ^ (m + n) + 2 ^ (n + m) := by rw [Nat.add_comm n m, Nat.pow_succ]; omega
    omega
  · have h1 := natAbs_mul_lt (den_lt ha) (den_lt hb)
    rw [Int.natCast_mul]
    exact Nat.lt_of_lt_of_le h1 (pow_mono (by omega))
theorem Sz.sub {m n : Nat} {a b : Rat} (ha : Sz m a) (hb : Sz n b) : Sz (m + n + 1) (a - b) := by
  rw [Rat.sub_eq_add_neg]; exact ha.add hb.neg
theorem Sz.mul {m n : Nat} {a b : Rat} (ha : Sz m a) (hb : Sz n b) (h0 : 1 ≤ m + n := by omega) : Sz (m + n) (a * b) := by
  rw [mul_eq_divInt]
  refine divInt_sz (natAbs_mul_lt ha.num hb.num) ?_ h0
  have h1 := natAbs_mul_lt (den_lt ha) (den_lt hb)
  rw [Int.natCast_mul]
  exact h1
theorem Sz.div {m n : Nat} {a b : Rat} (ha : Sz m a) (hb : Sz n b) (h0 : 1 ≤ m + n := by omega) : Sz (m + n) (a / b) := by
  rw [div_eq_divInt]
  exact divInt_sz (natAbs_mul_lt ha.num (den_lt hb)) (natAbs_mul_lt (den_lt ha) hb.num) h0
theorem Sz.int {n : Nat} {i : Int} (h : i.natAbs < 2 ^ n) (h0 : 1 ≤ n) : Sz n (i : Rat) := ⟨by simpa using h, by simpa using Nat.lt_of_lt_of_le (by decide : 1 < 2 ^ 1) (pow_mono h0)⟩
theorem Sz.cast (k : Nat) {n : Nat} (h : k < 2 ^ n) (h0 : 1 ≤ n) : Sz n (k : Rat) := ⟨by simpa using h, by simpa using Nat.lt_of_lt_of_le (by decide : 1 < 2 ^ 1) (pow_mono h0)⟩
theorem Sz.zero {n : Nat} (h : 1 ≤ n) : Sz n (0 : Rat) := Sz.mono (m := 1) (Sz.cast 0 (by decide) (by decide)) h
theorem Sz.one {n : Nat} (h : 1 ≤ n) : Sz n (1 : Rat) := Sz.mono (m := 1) (Sz.cast 1 (by decide) (by decide)) h
theorem Sz.half {n : Nat} (h : 3 ≤ n) : Sz n (1 / 2 : Rat) := Sz.mono (m := 3) ((Sz.one (n := 1) (by omega)).div (Sz.cast 2 (n := 2) (by decide) (by decide))) h
/-- a product of numbers below 2 ^ a, 2 ^ b is a good product -/
theorem cm_of {i j : Int} {m n : Nat} (hi : i.natAbs < 2 ^ m) (hj : j.natAbs < 2 ^ n) (h : m + n ≤ 900000) : CM i j := by
  refine .inr (.inr ?_)
  have l1 : i.natAbs.log2 ≤ m := by
    by_cases h0 : i.natAbs = 0
    · rw [h0]; simp
    · exact Nat.le_of_lt ((Nat.log2_lt h0).mpr hi)
  have l2 : j.natAbs.log2 ≤ n := by
    by_cases h0 : j.natAbs = 0
    · rw [h0]; simp
    · exact Nat.le_of_lt ((Nat.log2_lt h0).mpr hj)
  omega
theorem cd_of {i j : Int} {n : Nat} (h0 : 0 < j) (h : j.natAbs < 2 ^ n) (hn : n ≤ 8999) : CD i j := by
  refine ⟨h0, ?_⟩
  have : j.natAbs.log2 < n := (Nat.log2_lt (by omega)).mpr h
  omega
end Pl
end

section
set_option linter.all false
set_option maxRecDepth 100000
set_option autoImplicit false
set_option maxHeartbeats 1000000
/-! lists as data, comprehensions; floors (no program) -/
namespace Pl
open PySem
theorem comp_map {α : Type} {t : Tgt} {f : FE} {env : AEnv} {k g : α → D} : ∀ (xs : List α) (acc : List D) (Q : D → Prop), acc.length + xs.length ≤ 16777216 →
    (∀ x ∈ xs, ∀ P : D → Prop, P (g x) → wBind t (k x) env fun e => f e P) → Q (.lst (acc ++ xs.map g)) → wComp t wYes f env (xs.map k) acc Q
  | [], acc, Q, _, _, q => by simpa [wComp] using q
  | x :: xs, acc, Q, hl, h, q => by
    simp only [List.length_cons] at hl
    rw [List.map_cons]
    unfold wComp
    obtain ⟨e, he, hf⟩ := h x List.mem_cons_self (fun y => acc.length < 16777216 ∧ wComp t wYes f env (xs.map k) (acc ++ [y]) Q) ⟨by omega, comp_map xs _ Q (by simp; omega) (fun x hx => h x (List.mem_cons_of_mem _ hx)) (by simpa using q)⟩
    exact ⟨e, he, by simpa [wYes] using hf⟩
theorem ix_lst {xs : List D} {i : Int} {d : D} (Q : D → Prop) (h0 : 0 ≤ i) (h : xs[i.toNat]? = some d) : dIx (.lst xs) (.int i) Q = Q d := by
  have hl : i.toNat < xs.length := by
    rcases Nat.lt_or_ge i.toNat xs.length with c | c
    · exact c
    · rw [List.getElem?_eq_none c] at h; cases h
  have e : ixD xs.length i = some i.toNat := by
    unfold ixD
    rw [if_pos h0, if_pos (by omega)]
  show (∃ d, ((ixD xs.length i).bind fun j => xs[j]?) = some d ∧ Q d) = Q d
  rw [e, Option.bind_some, h]
  simp
theorem ix_frs {xs : List Rat} {i : Int} {r : Rat} (Q : D → Prop) (h0 : 0 ≤ i) (h : xs[i.toNat]? = some r) : dIx (.lst (xs.map fr)) (.int i) Q = Q (fr r) := ix_lst Q h0 (by rw [List.getElem?_map, h]; rfl)
theorem deqs_frs_nil (xs : List Rat) : deqs (xs.map fr) [] = decide (xs = []) := deqs_frs xs []
theorem flatten_one (n : Nat) (d : D) : (List.replicate n [d]).flatten = List.replicate n d := by induction n <;> simp_all [List.replicate_succ]
theorem fl_iff (q : Rat) (n : Int) : q.floor = n ↔ (n : Rat) ≤ q ∧ q < n + 1 := by
  rw [← Rat.le_floor_iff, show (n : Rat) + 1 = ((n + 1 : Int) : Rat) by simp [Rat.intCast_add], ← Rat.floor_lt_iff]
  omega
theorem fl_le (q : Rat) : (q.floor : Rat) ≤ q := ((fl_iff q _).mp rfl).1
theorem lt_fl (q : Rat) : q < q.floor + 1 := ((fl_iff q _).mp rfl).2
theorem fl_eq {q : Rat} {n : Int} (h : (n : Rat) ≤ q) (h2 : q < n + 1) : q.floor = n := (fl_iff q n).mpr ⟨h, h2⟩
theorem fl_addi (q : Rat) (m : Int) : (q + (m : Rat)).floor = q.floor + m := by
  have h1 := fl_le q
  have h2 := lt_fl q
  refine fl_eq ?_ ?_ <;> rw [Rat.intCast_add] <;> grind
theorem fl_i (m : Int) : ((m : Int) : Rat).floor = m := Rat.floor_intCast m
theorem den40 {a b : Rat} (ha : Sz 40 a) (hb : Sz 40 b) : a.den * b.den < 2 ^ 100 := Nat.lt_of_lt_of_le (Nat.mul_lt_mul'' ha.den hb.den) (by decide)
theorem sz_dec {n : Nat} {t b : Int} (h1 : t.natAbs < 2 ^ n) (h2 : b.natAbs < 2 ^ n) (h0 : 1 ≤ n) : Sz n (Rat.divInt t b) := divInt_sz h1 h2 h0
theorem divInt_pos {t b : Int} (ht : 0 < t) (hb : 0 < b) : 0 < Rat.divInt t b := by
  rw [Rat.divInt_eq_div]
  have h1 : (0 : Rat) < t := by exact_mod_cast ht
  have h2 : (0 : Rat) < b := by exact_mod_cast hb
  exact (Rat.lt_div_iff h2).mpr (by rw [Rat.zero_mul]; exact h1)
theorem divInt_nn {t b : Int} (ht : 0 ≤ t) (hb : 0 < b) : 0 ≤ Rat.divInt t b := by
  rcases (by omega : t = 0 ∨ 0 < t) with rfl | h
  · simp
  · exact Rat.le_of_lt (divInt_pos h hb)
/-- a fraction of two numbers against a number -/
theorem divInt_le {t b n : Int} (hb : 0 < b) (h : t ≤ n * b) : Rat.divInt t b ≤ (n : Rat) := by
  rw [Rat.divInt_eq_div]
  have h2 : (0 : Rat) < b := by exact_mod_cast hb
  rw [← Rat.not_lt, Rat.lt_div_iff h2, Rat.not_lt]
  have : ((t : Int) : Rat) ≤ ((n * b : Int) : Rat) := by exact_mod_cast h
  rw [Rat.intCast_mul] at this
  exact this
theorem comp_rng0 {t : Tgt} {f : FE} {env : AEnv} {n : Nat} {Q : D → Prop} (g : Nat → D) (hn : n ≤ 1000000) (h : ∀ i, i < n → ∀ P : D → Prop, P (g i) → wBind t (.int (i : Int)) env fun e => f e P) (q : Q (.lst ((List.range n).map g))) : wComp t wYes f env (rngD 0 n) [] Q :=
  comp_map (g := g) (List.range n) [] Q (by simp; omega) (fun i hi P p => by
    have := h i (List.mem_range.mp hi) P p
    rw [show (0 : Int) + (i : Int) = (i : Int) by omega]
    exact this) (by simpa using q)
theorem comp_rng1 {t : Tgt} {f : FE} {env : AEnv} {n : Nat} {Q : D → Prop} (g : Nat → D) (hn : n ≤ 1000000) (h : ∀ i, i < n → ∀ P : D → Prop, P (g i) → wBind t (.int (1 + (i : Int))) env fun e => f e P) (q : Q (.lst ((List.range n).map g))) : wComp t wYes f env (rngD 1 n) [] Q :=
  comp_map (g := g) (List.range n) [] Q (by simp; omega) (fun i hi P p => h i (List.mem_range.mp hi) P p) (by simpa using q)
theorem comp_frs {t : Tgt} {f : FE} {env : AEnv} {xs : List Rat} {Q : D → Prop} (g : Rat → D) (hn : xs.length ≤ 1000000) (h : ∀ x ∈ xs, ∀ P : D → Prop, P (g x) → wBind t (fr x) env fun e => f e P) (q : Q (.lst (xs.map g))) : wComp t wYes f env (xs.map fr) [] Q :=
  comp_map (g := g) xs [] Q (by simp; omega) h (by simpa using q)
/-- a comprehension with a test -/
theorem comp_filter {α : Type} {t : Tgt} {c : FT} {f : FE} {env : AEnv} {k g : α → D} {p : α → Bool} : ∀ (xs : List α) (acc : List D) (Q : D → Prop), acc.length + xs.length ≤ 16777216 →
    (∀ x ∈ xs, ∀ P : Bool → AEnv → Prop, (∀ e, bindT t (k x) env = some e → P (p x) e) → wBind t (k x) env fun e => c e fun b => P b e) →
    (∀ x ∈ xs, p x = true → ∀ P : D → Prop, P (g x) → ∀ e, bindT t (k x) env = some e → f e P) → Q (.lst (acc ++ (xs.filter p).map g)) → wComp t c f env (xs.map k) acc Q
  | [], acc, Q, _, _, _, q => by simpa [wComp] using q
  | x :: xs, acc, Q, hl, hc, h, q => by
    simp only [List.length_cons] at hl
    rw [List.map_cons]
    unfold wComp
    refine hc x List.mem_cons_self (fun b e => if b = true then f e fun y => acc.length < 16777216 ∧ wComp t c f env (xs.map k) (acc ++ [y]) Q else wComp t c f env (xs.map k) acc Q) fun e he => ?_
    cases hp : p x with
    | true =>
      rw [if_pos rfl]
      refine h x List.mem_cons_self hp _ ⟨by omega, ?_⟩ e he
      refine comp_filter xs _ Q (by simp; omega) (fun x hx => hc x (List.mem_cons_of_mem _ hx)) (fun x hx => h x (List.mem_cons_of_mem _ hx)) ?_
      simpa [List.filter_cons, hp] using q
    | false =>
      rw [if_neg (by simp)]
      refine comp_filter xs _ Q (by omega) (fun x hx => hc x (List.mem_cons_of_mem _ hx)) (fun x hx => h x (List.mem_cons_of_mem _ hx)) ?_
      simpa [List.filter_cons, hp] using q
theorem all_flat_false {α : Type} (n : List α) : (n.map fun _ => D.bl false).all flatD = true := by simp [flatD]
theorem any_true_false {α : Type} (n : List α) : ((n.map fun _ => D.bl false).any fun y => deq y (.bl true)) = false := by simp [deq]
/-! ### slices -/
theorem cutD_to {xs : List D} {k : Int} (h : 0 ≤ k) : cutD xs none (some k) = xs.take k.toNat := by
  unfold cutD sIxD
  simp only [List.drop_zero, Nat.sub_zero]
  rw [if_neg (by omega)]
  rw [Nat.min_def]
  split
  · rfl
  · rw [List.take_of_length_le (Nat.le_refl _), List.take_of_length_le (by omega)]
theorem cutD_from {xs : List D} {k : Int} (h : 0 ≤ k) : cutD xs (some k) none = xs.drop k.toNat := by
  unfold cutD sIxD
  simp only
  rw [if_neg (by omega)]
  rw [Nat.min_def]
  split
  · rw [List.take_of_length_le (by rw [List.length_drop]; omega)]
  · rw [List.drop_of_length_le (Nat.le_refl _), List.drop_of_length_le (by omega)]
    simp
theorem cutD_to_nat {xs : List D} {k : Nat} : cutD xs none (some (k : Int)) = xs.take k := cutD_to (by omega)
theorem cutD_from_nat {xs : List D} {k : Nat} : cutD xs (some (k : Int)) none = xs.drop k := cutD_from (by omega)
/-! ### rows put in order -/
def cntR (a : Rat) (f : List Rat) : Nat := (f.filter fun b => !decide (a < b)).length
def insR (a : Rat) (f : List Rat) : List Rat := f.take (cntR a f) ++ [a] ++ f.drop (cntR a f)
def upR (l : List Rat) : List Rat := l.foldl (fun f a => insR a f) []
abbrev AscR (l : List Rat) : Prop := l.Pairwise fun a b => a ≤ b
theorem cntR_le (a : Rat) (f : List Rat) : cntR a f ≤ f.length := List.length_filter_le _ _
theorem cntR_cons (a b : Rat) (f : List Rat) : cntR a (b :: f) = (if a < b then 0 else 1) + cntR a f := by
  unfold cntR
  by_cases h : a < b
  · simp [List.filter_cons, h]
  · simp [List.filter_cons, h]; omega
theorem insR_parts {a : Rat} : ∀ {f : List Rat}, AscR f → (∀ b ∈ f.take (cntR a f), b ≤ a) ∧ ∀ b ∈ f.drop (cntR a f), a < b
  | [], _ => by simp [cntR]
  | b :: f, h => by
    rw [cntR_cons]
    obtain ⟨h1, h2⟩ := List.pairwise_cons.mp h
    obtain ⟨i1, i2⟩ := insR_parts (a := a) h2
    by_cases c : a < b
    · have z : cntR a f = 0 := by
        unfold cntR
        rw [List.length_eq_zero_iff, List.filter_eq_nil_iff]
        intro x hx
        have := h1 x hx
        simp only [Bool.not_eq_true', decide_eq_false_iff_not, Rat.not_lt]
        grind
      rw [if_pos c, z]
      refine ⟨by simp, fun x hx => ?_⟩
      simp only [Nat.add_zero, List.drop_zero, List.mem_cons] at hx
      rcases hx with rfl | hx
      · exact c
      · have := h1 x hx; grind
    · rw [if_neg c, Nat.add_comm]
      simp only [List.take_succ_cons, List.drop_succ_cons, List.mem_cons]
      exact ⟨fun x hx => hx.elim (fun e => by subst e; exact Rat.not_lt.mp c) (i1 x), i2⟩
theorem insR_asc {a : Rat} {f : List Rat} (h : AscR f) : AscR (insR a f) := by
  obtain ⟨h1, h2⟩ := insR_parts (a := a) h
  unfold insR AscR
  rw [List.append_assoc, List.pairwise_append]
  refine ⟨List.Pairwise.sublist (List.take_sublist _ _) h, ?_, ?_⟩
  · rw [List.singleton_append, List.pairwise_cons]
    exact ⟨fun b hb => Rat.le_of_lt (h2 b hb), List.Pairwise.sublist (List.drop_sublist _ _) h⟩
  · intro x hx y hy
    rw [List.singleton_append, List.mem_cons] at hy
    rcases hy with rfl | hy
    · exact h1 x hx
    · have := h1 x hx; have := h2 y hy; grind
theorem upR_asc_of : ∀ (l acc : List Rat), AscR acc → AscR (l.foldl (fun f a => insR a f) acc)
  | [], acc, h => h
  | a :: l, acc, h => upR_asc_of l _ (insR_asc h)
theorem upR_asc (l : List Rat) : AscR (upR l) := upR_asc_of l [] List.Pairwise.nil
theorem insR_mem {a x : Rat} {f : List Rat} : x ∈ insR a f ↔ x = a ∨ x ∈ f := by
  unfold insR
  rw [List.mem_append, List.mem_append, List.mem_singleton]
  have e : x ∈ f ↔ x ∈ f.take (cntR a f) ∨ x ∈ f.drop (cntR a f) := by
    rw [← List.mem_append, List.take_append_drop]
  rw [e]
  grind
theorem upR_mem_of {x : Rat} : ∀ (l acc : List Rat), x ∈ l.foldl (fun f a => insR a f) acc ↔ x ∈ acc ∨ x ∈ l
  | [], acc => by simp
  | a :: l, acc => by rw [List.foldl_cons, upR_mem_of l, insR_mem, List.mem_cons]; grind
theorem upR_mem {x : Rat} {l : List Rat} : x ∈ upR l ↔ x ∈ l := by unfold upR; rw [upR_mem_of]; simp
theorem insR_length (a : Rat) (f : List Rat) : (insR a f).length = f.length + 1 := by
  unfold insR
  have := cntR_le a f
  simp only [List.length_append, List.length_take, List.length_drop, List.length_singleton]
  omega
theorem upR_length_of : ∀ (l acc : List Rat), (l.foldl (fun f a => insR a f) acc).length = acc.length + l.length
  | [], acc => by simp
  | a :: l, acc => by rw [List.foldl_cons, upR_length_of l, insR_length, List.length_cons]; omega
theorem upR_length (l : List Rat) : (upR l).length = l.length := by unfold upR; rw [upR_length_of]; simp
theorem cntR_all {a : Rat} {f : List Rat} (h : ∀ b ∈ f, b ≤ a) : cntR a f = f.length := by
  unfold cntR
  rw [List.filter_eq_self.mpr]
  intro b hb
  have := h b hb
  simp only [Bool.not_eq_true', decide_eq_false_iff_not]
  grind
theorem upR_self_of : ∀ (l acc : List Rat), AscR (acc ++ l) → l.foldl (fun f a => insR a f) acc = acc ++ l
  | [], acc, _ => by simp
  | a :: l, acc, h => by
    have h1 : ∀ b ∈ acc, b ≤ a := fun b hb => (List.pairwise_append.mp h).2.2 b hb a List.mem_cons_self
    have e : insR a acc = acc ++ [a] := by
      unfold insR
      rw [cntR_all h1]
      simp
    rw [List.foldl_cons, e, upR_self_of l (acc ++ [a]) (by simpa using h)]
    simp
theorem upR_self {l : List Rat} (h : AscR l) : upR l = l := by unfold upR; rw [upR_self_of l [] (by simpa using h)]; rfl
theorem upR_two (a b : Rat) : upR [a, b] = if b < a then [b, a] else [a, b] := by
  unfold upR
  simp only [List.foldl_cons, List.foldl_nil]
  have e : insR a [] = [a] := by simp [insR, cntR]
  rw [e]
  by_cases h : b < a
  · simp [insR, cntR, h]
  · simp [insR, cntR, h]
end Pl
end

section
set_option linter.all false
set_option maxRecDepth 100000
set_option autoImplicit false
set_option maxHeartbeats 1000000
namespace Pl
open PySem
def c_ZERO : D := .tup [.int 0, .int 1]
theorem c_ZERO_eq : c_ZERO = fr 0 := rfl

def φ_l_draw : Fn := fun ds Q => match ds with
  | [.tape, .int many] => (0 < many ∧ many < 1073741824) ∧ ∀ d, 0 ≤ d → d < many → Q (.int d)
  | _ => False
theorem cl_l_draw (many : Int) (Q : D → Prop) : φ_l_draw [.tape, .int many] Q = ((0 < many ∧ many < 1073741824) ∧ ∀ d, 0 ≤ d → d < many → Q (.int d)) := rfl
def φ_less : Fn := fun ds Q => ∃ a b : Rat, ds = [fr a, fr b] ∧ Sz 1900 a ∧ Sz 1900 b ∧ Q (.bl (decide (a < b)))
theorem len_less (ds : List D) (Q : D → Prop) (h : φ_less ds Q) : ds.length = 2 := by obtain ⟨_, _, rfl, _⟩ := h; rfl
theorem cl_less (a b : Rat) (Q : D → Prop) : φ_less [fr a, fr b] Q = (Sz 1900 a ∧ Sz 1900 b ∧ Q (.bl (decide (a < b)))) := propext ⟨fun ⟨t', b', e, h⟩ => by simp only [List.cons.injEq, fr_inj, and_true] at e; obtain ⟨rfl, rfl⟩ := e; exact h, fun h => ⟨a, b, rfl, h⟩⟩
/-- less(a, b): slots 0=a 1=b -/
def F_less : FS :=
  (wRet (wBin dLt (wBin dMul (wBin dIx (wVar 0) (wC (.int 0))) (wBin dIx (wVar 1) (wC (.int 1)))) (wBin dMul (wBin dIx (wVar 1) (wC (.int 0))) (wBin dIx (wVar 0) (wC (.int 1))))))

theorem r_less (ds : List D) (Q : D → Prop) (h : φ_less ds Q) : F_less (AEnds.fn Q) (startE 2 ds) := by
  obtain ⟨a, b, rfl, ha, hb, q⟩ := h
  simp only [F_less, wSeq, wNext, wSet, wSetO, wAsg, wFrz, wRet, wRetN, wDrop, wIfS, wNever, wVar, wOwn, wC, wBin, wUn, wNil, wCons, wTup, wLst, wCall, dBool, wAndV, wOrV, wNotV, wIf, wChain, wTest, wAnd, wOr, wNot, wBind, bindT, setAll, wPar, wAug, wMut, wMutSet, wPut, mAppend, mExtend, wItems, wFor, wBreak, wCont, wWhile, wLc, wipeE, wSlice, wNoP, wP, startE, AEnds.law, AEnds.fn, wSetF, wFld, startI, AEnds.ini, wDict, dGet, kLook, keyD, wRng1, wRng2, wRngDown, wZip, wEnum, wRev, wPar3O, wListZip, wSliceT, wLenSet, wLm, mInsert, List.getElem?_cons_zero, List.getElem?_cons_succ, List.set_cons_zero, List.set_cons_succ, List.map_cons, List.map_nil, List.cons_append, List.nil_append, List.length_cons, List.length_nil, List.replicate, Option.some.injEq, Slot.val.injEq, Slot.own.injEq, D.lst.injEq, exists_eq_left', exists_eq_left, exists_eq', true_and, and_true, Nat.reduceAdd, Nat.reduceSub, Nat.reduceLeDiff, Bool.false_eq_true, if_true, if_false, ↓reduceIte, Int.reduceMul, Int.reduceAdd, Int.reduceSub, Int.reduceNeg, Int.reduceLT, Int.reduceLE, Int.reduceEq, Nat.reduceMul, Nat.reduceLT, String.reduceEq, String.reduceNe, Int.reduceToNat, reduceCtorEq, Bool.not_true, Bool.not_false, Bool.true_or, Bool.or_true, Bool.false_or, Bool.or_false, Bool.true_and, Bool.and_true, Bool.false_and, Bool.and_false, Bool.not_eq_true', decide_eq_true_eq, decide_eq_false_iff_not, not_true_eq_false, not_false_eq_true, dIn, dNotIn, flatD, List.all_cons, List.all_nil, List.any_cons, List.any_nil, dInt2, dSub, dFdiv, dMod, dLt, dLe, dGt, dGe, dPow, dNeg, dAdd, dMul, dEq, dNe, dIsN, dNotN, isNon_non, isNon_bl, isNon_int, isNon_str, isNon_tup, isNon_lst, isNon_fr, deq_non_non, deq_non_bl, deq_non_int, deq_non_str, deq_non_tup, deq_non_lst, deq_bl_non, deq_bl_bl, deq_bl_str, deq_bl_tup, deq_bl_lst, deq_int_non, deq_int_int, deq_int_str, deq_int_tup, deq_int_lst, deq_str_non, deq_str_bl, deq_str_int, deq_str_str, deq_str_tup, deq_str_lst, deq_tup_non, deq_tup_bl, deq_tup_int, deq_tup_str, deq_tup_tup, deq_tup_lst, deq_lst_non, deq_lst_bl, deq_lst_int, deq_lst_str, deq_lst_tup, deq_lst_lst, deqs_nil, deqs_cons, deqs_nil_cons, deqs_cons_nil, deq_fr_non, deq_non_fr, plain_non, plain_bl, plain_int, plain_lit, plains_nil, plains_cons, plain_lst20, plain_tup20, plain_lst19, plain_tup19, plain_tup18, plain_fr19, plain_fr18, deqs_frs, plains_frs19, decide_true, decide_false, ix0, ix1, deq_fr, plain_fr20, fr_def, fr_neg, fr_neg', okStr_lit, beq_lit, bLen, bAbs, bMax2, bMin2, bInt, bGcd, bList, bTuple, ofString_inj]
  rw [decide_eq_decide.mpr (Rat.lt_iff a b)] at q
  exact ⟨cm_of (n := 1900) (m := 1900) ha.num (den_lt hb) (by omega), cm_of (n := 1900) (m := 1900) hb.num (den_lt ha) (by omega), q⟩
/-! ### sets of names -/
theorem strsD_map (ns : List Str) : strsD (ns.map D.str) = some ns := by
  induction ns with
  | nil => rfl
  | cons n ns ih => simp [strsD, ih]
theorem intsD_map (ns : List Int) : intsD (ns.map D.int) = some ns := by
  induction ns with
  | nil => rfl
  | cons n ns ih => simp [intsD, ih]
theorem setK_nodup {α : Type} [DecidableEq α] {ns : List α} (h : ns.Nodup) : setK ns = ns := by
  have key : ∀ (l σ : List α), (σ ++ l).Nodup → l.foldl addK σ = σ ++ l := by
    intro l
    induction l with
    | nil => intro σ _; simp
    | cons a l ih =>
      intro σ h
      rw [List.foldl_cons]
      have na : a ∉ σ := fun m => by
        rw [List.nodup_append] at h
        exact h.2.2 a m a List.mem_cons_self rfl
      rw [show addK σ a = σ ++ [a] from if_neg na, ih (σ ++ [a]) (by simpa using h)]
      simp
  exact key ns [] h
theorem dedLen_strs {ns : List Str} (h : ns.Nodup) (h0 : ns ≠ []) : dedLen (ns.map D.str) = some ns.length := by
  have e : intsD (ns.map D.str) = none := by
    cases ns with
    | nil => exact absurd rfl h0
    | cons n ns => rfl
  unfold dedLen
  rw [e, strsD_map, Option.map_some, setK_nodup h]
theorem boolsD_true {α : Type} (l : List α) : boolsD (l.map fun _ => D.bl true) = some (l.map fun _ => true) := by
  induction l with
  | nil => rfl
  | cons a l ih => simp [boolsD, ih]
/-! ### grades -/
abbrev Rws := List (Str × Rat)
/-- a grade's row -/
def gr (p : Str × Rat) : D := .tup [.str p.1, fr p.2]
theorem gr0 (p : Str × Rat) (Q : D → Prop) : dIx (gr p) (.int 0) Q = Q (.str p.1) := by simp [dIx, gr, ixD]
theorem gr1 (p : Str × Rat) (Q : D → Prop) : dIx (gr p) (.int 1) Q = Q (fr p.2) := by simp [dIx, gr, ixD]
theorem gr_inj {p q : Str × Rat} (h : gr p = gr q) : p = q := by
  simp only [gr, D.tup.injEq, List.cons.injEq, D.str.injEq, fr_inj, and_true] at h
  exact Prod.ext h.1 h.2
theorem grs_inj' {xs ys : Rws} (h : xs.map gr = ys.map gr) : xs = ys := (List.map_inj_right fun _ _ e => gr_inj e).mp h
theorem ix_tup {xs : List D} {i : Int} {d : D} (Q : D → Prop) (h0 : 0 ≤ i) (h : xs[i.toNat]? = some d) : dIx (.tup xs) (.int i) Q = Q d := ix_lst (xs := xs) Q h0 h
theorem ix_grT {rows : Rws} {i : Int} {p : Str × Rat} (Q : D → Prop) (h0 : 0 ≤ i) (h : rows[i.toNat]? = some p) : dIx (.tup (rows.map gr)) (.int i) Q = Q (gr p) := ix_tup Q h0 (by rw [List.getElem?_map, h]; rfl)
theorem ix_grL {rows : Rws} {i : Int} {p : Str × Rat} (Q : D → Prop) (h0 : 0 ≤ i) (h : rows[i.toNat]? = some p) : dIx (.lst (rows.map gr)) (.int i) Q = Q (gr p) := ix_lst Q h0 (by rw [List.getElem?_map, h]; rfl)
def nms (rows : Rws) (last : Str) : List Str := rows.map (·.1) ++ [last]
structure Gr (rows : Rws) (last : Str) : Prop where
  few : rows.length ≤ 60
  nod : (nms rows last).Nodup
  desc : rows.Pairwise fun p q => q.2 < p.2
  sz : ∀ p ∈ rows, Sz 300 p.2
  ok : ∀ n ∈ nms rows last, okStr n = true
def grs (rows : Rws) (last : Str) : D := .obj "Grades" ["rows", "last"] [.tup (rows.map gr), .str last]
theorem grs_inj {r r' : Rws} {l l' : Str} (h : grs r l = grs r' l') : r = r' ∧ l = l' := by
  simp only [grs, D.obj.injEq, List.cons.injEq, D.tup.injEq, D.str.injEq, and_true, true_and] at h
  exact ⟨grs_inj' h.1, h.2⟩
def φ_Grades_init : Fn := fun ds Q => ∃ (rows : Rws) (last : Str), ds = [.tup (rows.map gr), .str last] ∧ Gr rows last ∧ Q (grs rows last)
theorem len_Grades_init (ds : List D) (Q : D → Prop) (h : φ_Grades_init ds Q) : ds.length + 1 = 3 := by obtain ⟨_, _, rfl, _⟩ := h; rfl
theorem cl_Grades_init (rows : Rws) (last : Str) (Q : D → Prop) : φ_Grades_init [.tup (rows.map gr), .str last] Q = (Gr rows last ∧ Q (grs rows last)) := propext ⟨fun ⟨r', l', e, h⟩ => by
    simp only [List.cons.injEq, D.tup.injEq, D.str.injEq, and_true] at e
    obtain ⟨e, rfl⟩ := e
    rw [grs_inj' e]; exact h, fun h => ⟨rows, last, rfl, h⟩⟩
theorem fld_rows (rows : Rws) (last : Str) (Q : D → Prop) : dFld "Grades" "rows" (grs rows last) Q = Q (.tup (rows.map gr)) := by simp only [dFld, fLook, grs, List.getElem?_cons_zero, List.getElem?_cons_succ, List.set_cons_zero, List.set_cons_succ, List.map_cons, List.map_nil, List.cons_append, List.nil_append, List.length_cons, List.length_nil, List.replicate, Option.some.injEq, Slot.val.injEq, Slot.own.injEq, D.lst.injEq, exists_eq_left', exists_eq_left, exists_eq', true_and, and_true, Nat.reduceAdd, Nat.reduceSub, Nat.reduceLeDiff, Bool.false_eq_true, if_true, if_false, ↓reduceIte, Int.reduceMul, Int.reduceAdd, Int.reduceSub, Int.reduceNeg, Int.reduceLT, Int.reduceLE, Int.reduceEq, Nat.reduceMul, Nat.reduceLT, String.reduceEq, String.reduceNe, Int.reduceToNat, reduceCtorEq, Bool.not_true, Bool.not_false, Bool.true_or, Bool.or_true, Bool.false_or, Bool.or_false, Bool.true_and, Bool.and_true, Bool.false_and, Bool.and_false, Bool.not_eq_true', decide_eq_true_eq, decide_eq_false_iff_not, not_true_eq_false, not_false_eq_true, dIn, dNotIn, flatD, List.all_cons, List.all_nil, List.any_cons, List.any_nil, dInt2, dSub, dFdiv, dMod, dLt, dLe, dGt, dGe, dPow, dNeg, dAdd, dMul, dEq, dNe, dIsN, dNotN, isNon_non, isNon_bl, isNon_int, isNon_str, isNon_tup, isNon_lst, isNon_fr, deq_non_non, deq_non_bl, deq_non_int, deq_non_str, deq_non_tup, deq_non_lst, deq_bl_non, deq_bl_bl, deq_bl_str, deq_bl_tup, deq_bl_lst, deq_int_non, deq_int_int, deq_int_str, deq_int_tup, deq_int_lst, deq_str_non, deq_str_bl, deq_str_int, deq_str_str, deq_str_tup, deq_str_lst, deq_tup_non, deq_tup_bl, deq_tup_int, deq_tup_str, deq_tup_tup, deq_tup_lst, deq_lst_non, deq_lst_bl, deq_lst_int, deq_lst_str, deq_lst_tup, deq_lst_lst, deqs_nil, deqs_cons, deqs_nil_cons, deqs_cons_nil, deq_fr_non, deq_non_fr, plain_non, plain_bl, plain_int, plain_lit, plains_nil, plains_cons, plain_lst20, plain_tup20, plain_lst19, plain_tup19, plain_tup18, plain_fr19, plain_fr18, deqs_frs, plains_frs19, decide_true, decide_false, ix0, ix1, deq_fr, plain_fr20, fr_def, fr_neg, fr_neg', okStr_lit, beq_lit, bLen, bAbs, bMax2, bMin2, bInt, bGcd, bList, bTuple, ofString_inj]
theorem fld_last (rows : Rws) (last : Str) (Q : D → Prop) : dFld "Grades" "last" (grs rows last) Q = Q (.str last) := by simp only [dFld, fLook, grs, List.getElem?_cons_zero, List.getElem?_cons_succ, List.set_cons_zero, List.set_cons_succ, List.map_cons, List.map_nil, List.cons_append, List.nil_append, List.length_cons, List.length_nil, List.replicate, Option.some.injEq, Slot.val.injEq, Slot.own.injEq, D.lst.injEq, exists_eq_left', exists_eq_left, exists_eq', true_and, and_true, Nat.reduceAdd, Nat.reduceSub, Nat.reduceLeDiff, Bool.false_eq_true, if_true, if_false, ↓reduceIte, Int.reduceMul, Int.reduceAdd, Int.reduceSub, Int.reduceNeg, Int.reduceLT, Int.reduceLE, Int.reduceEq, Nat.reduceMul, Nat.reduceLT, String.reduceEq, String.reduceNe, Int.reduceToNat, reduceCtorEq, Bool.not_true, Bool.not_false, Bool.true_or, Bool.or_true, Bool.false_or, Bool.or_false, Bool.true_and, Bool.and_true, Bool.false_and, Bool.and_false, Bool.not_eq_true', decide_eq_true_eq, decide_eq_false_iff_not, not_true_eq_false, not_false_eq_true, dIn, dNotIn, flatD, List.all_cons, List.all_nil, List.any_cons, List.any_nil, dInt2, dSub, dFdiv, dMod, dLt, dLe, dGt, dGe, dPow, dNeg, dAdd, dMul, dEq, dNe, dIsN, dNotN, isNon_non, isNon_bl, isNon_int, isNon_str, isNon_tup, isNon_lst, isNon_fr, deq_non_non, deq_non_bl, deq_non_int, deq_non_str, deq_non_tup, deq_non_lst, deq_bl_non, deq_bl_bl, deq_bl_str, deq_bl_tup, deq_bl_lst, deq_int_non, deq_int_int, deq_int_str, deq_int_tup, deq_int_lst, deq_str_non, deq_str_bl, deq_str_int, deq_str_str, deq_str_tup, deq_str_lst, deq_tup_non, deq_tup_bl, deq_tup_int, deq_tup_str, deq_tup_tup, deq_tup_lst, deq_lst_non, deq_lst_bl, deq_lst_int, deq_lst_str, deq_lst_tup, deq_lst_lst, deqs_nil, deqs_cons, deqs_nil_cons, deqs_cons_nil, deq_fr_non, deq_non_fr, plain_non, plain_bl, plain_int, plain_lit, plains_nil, plains_cons, plain_lst20, plain_tup20, plain_lst19, plain_tup19, plain_tup18, plain_fr19, plain_fr18, deqs_frs, plains_frs19, decide_true, decide_false, ix0, ix1, deq_fr, plain_fr20, fr_def, fr_neg, fr_neg', okStr_lit, beq_lit, bLen, bAbs, bMax2, bMin2, bInt, bGcd, bList, bTuple, ofString_inj]
theorem okM_names (rows : Rws) (last : Str) : okM "Grades" "names" (grs rows last) = True := by simp [okM, grs, ofString_inj]
theorem okM_grade (rows : Rws) (last : Str) : okM "Grades" "grade" (grs rows last) = True := by simp [okM, grs, ofString_inj]
theorem okM_place (rows : Rws) (last : Str) : okM "Grades" "place" (grs rows last) = True := by simp [okM, grs, ofString_inj]
theorem okM_counts (rows : Rws) (last : Str) : okM "Grades" "counts" (grs rows last) = True := by simp [okM, grs, ofString_inj]
theorem okM_at_least (rows : Rws) (last : Str) : okM "Grades" "at_least" (grs rows last) = True := by simp [okM, grs, ofString_inj]
theorem okM_to_next (rows : Rws) (last : Str) : okM "Grades" "to_next" (grs rows last) = True := by simp [okM, grs, ofString_inj]
theorem okM_over_edge (rows : Rws) (last : Str) : okM "Grades" "over_edge" (grs rows last) = True := by simp [okM, grs, ofString_inj]
theorem okM_moved (rows : Rws) (last : Str) : okM "Grades" "moved" (grs rows last) = True := by simp [okM, grs, ofString_inj]
theorem nms_list (rows : Rws) (last : Str) : rows.map (fun p => D.str p.1) ++ [.str last] = (nms rows last).map D.str := by unfold nms; rw [List.map_append, List.map_map]; rfl
theorem nms_len (rows : Rws) (last : Str) : (nms rows last).length = rows.length + 1 := by simp [nms]
/-- Grades.__init__(self, rows, last): slots 0=self 1=rows 2=last 3=names 4=least 5=name 6=k -/
def F_Grades_init : FS :=
  (wSeq (wSet 3 (wBin dAdd (wLc (wItems (wVar 1)) (.tup [5, 4]) wYes (wVar 5) [5, 4]) (wLst (wCons (wVar 2) wNil))))
    (wSeq (wIfS (wOr (wTest (wBin dGt (wCall bLen (wCons (wVar 1) wNil)) (wC (.int 60)))) (wTest (wBin dLt (wLenSet (wVar 3)) (wCall bLen (wCons (wVar 3) wNil)))))
      wNever
      wNext)
    (wSeq (wIfS (wNot (wTest (wCall bAll (wCons (wLc (wRng1 (wCons (wBin dSub (wCall bLen (wCons (wVar 1) wNil)) (wC (.int 1))) wNil)) (.name 6) wYes (wCall φ_less (wCons (wBin dIx (wBin dIx (wVar 1) (wBin dAdd (wVar 6) (wC (.int 1)))) (wC (.int 1))) (wCons (wBin dIx (wBin dIx (wVar 1) (wVar 6)) (wC (.int 1))) wNil))) [6]) wNil))))
      wNever
      wNext)
    (wSeq (wSetF "Grades" 0 "rows" (wCall bTuple (wCons (wVar 1) wNil)))
    (wSetF "Grades" 0 "last" (wVar 2))))))

theorem r_Grades_init (ds : List D) (Q : D → Prop) (h : φ_Grades_init ds Q) : F_Grades_init (AEnds.ini Q) (startI 7 "Grades" ds) := by
  obtain ⟨rows, last, rfl, g, q⟩ := h
  have few := g.few
  simp only [F_Grades_init, wSeq, wSet, wBin, wLc, wItems, wVar, wLst, wCons, wNil, wipeE, startI, List.getElem?_cons_zero, List.getElem?_cons_succ, List.set_cons_zero, List.set_cons_succ, List.map_cons, List.map_nil, List.cons_append, List.nil_append, List.length_cons, List.length_nil, List.replicate, Option.some.injEq, Slot.val.injEq, Slot.own.injEq, D.lst.injEq, exists_eq_left', exists_eq_left, exists_eq', true_and, and_true, Nat.reduceAdd, Nat.reduceSub, Nat.reduceLeDiff, Bool.false_eq_true, if_true, if_false, ↓reduceIte, Int.reduceMul, Int.reduceAdd, Int.reduceSub, Int.reduceNeg, Int.reduceLT, Int.reduceLE, Int.reduceEq, Nat.reduceMul, Nat.reduceLT, String.reduceEq, String.reduceNe, Int.reduceToNat, reduceCtorEq, Bool.not_true, Bool.not_false, Bool.true_or, Bool.or_true, Bool.false_or, Bool.or_false, Bool.true_and, Bool.and_true, Bool.false_and, Bool.and_false, Bool.not_eq_true', decide_eq_true_eq, decide_eq_false_iff_not, not_true_eq_false, not_false_eq_true]
  refine comp_map (k := gr) (g := fun p => D.str p.1) rows [] _ (by simp; omega) (fun p hp P pp => ?_) ?_
  · simp only [wSeq, wNext, wSet, wSetO, wAsg, wFrz, wRet, wRetN, wDrop, wIfS, wNever, wVar, wOwn, wC, wBin, wUn, wNil, wCons, wTup, wLst, wCall, dBool, wAndV, wOrV, wNotV, wIf, wChain, wTest, wAnd, wOr, wNot, wBind, bindT, setAll, wPar, wAug, wMut, wMutSet, wPut, mAppend, mExtend, wItems, wFor, wBreak, wCont, wWhile, wLc, wipeE, wSlice, wNoP, wP, startE, AEnds.law, AEnds.fn, wSetF, wFld, startI, AEnds.ini, wDict, dGet, kLook, keyD, wRng1, wRng2, wRngDown, wZip, wEnum, wRev, wPar3O, wListZip, wSliceT, wLenSet, wLm, mInsert, gr, List.getElem?_cons_zero, List.getElem?_cons_succ, List.set_cons_zero, List.set_cons_succ, List.map_cons, List.map_nil, List.cons_append, List.nil_append, List.length_cons, List.length_nil, List.replicate, Option.some.injEq, Slot.val.injEq, Slot.own.injEq, D.lst.injEq, exists_eq_left', exists_eq_left, exists_eq', true_and, and_true, Nat.reduceAdd, Nat.reduceSub, Nat.reduceLeDiff, Bool.false_eq_true, if_true, if_false, ↓reduceIte, Int.reduceMul, Int.reduceAdd, Int.reduceSub, Int.reduceNeg, Int.reduceLT, Int.reduceLE, Int.reduceEq, Nat.reduceMul, Nat.reduceLT, String.reduceEq, String.reduceNe, Int.reduceToNat, reduceCtorEq, Bool.not_true, Bool.not_false, Bool.true_or, Bool.or_true, Bool.false_or, Bool.or_false, Bool.true_and, Bool.and_true, Bool.false_and, Bool.and_false, Bool.not_eq_true', decide_eq_true_eq, decide_eq_false_iff_not, not_true_eq_false, not_false_eq_true] at pp ⊢
    exact pp
  have dl := dedLen_strs g.nod (by simp [nms])
  have nl := nms_len rows last
  simp only [dAdd, List.getElem?_cons_zero, List.getElem?_cons_succ, List.set_cons_zero, List.set_cons_succ, List.map_cons, List.map_nil, List.cons_append, List.nil_append, List.length_cons, List.length_nil, List.replicate, Option.some.injEq, Slot.val.injEq, Slot.own.injEq, D.lst.injEq, exists_eq_left', exists_eq_left, exists_eq', true_and, and_true, Nat.reduceAdd, Nat.reduceSub, Nat.reduceLeDiff, Bool.false_eq_true, if_true, if_false, ↓reduceIte, Int.reduceMul, Int.reduceAdd, Int.reduceSub, Int.reduceNeg, Int.reduceLT, Int.reduceLE, Int.reduceEq, Nat.reduceMul, Nat.reduceLT, String.reduceEq, String.reduceNe, Int.reduceToNat, reduceCtorEq, Bool.not_true, Bool.not_false, Bool.true_or, Bool.or_true, Bool.false_or, Bool.or_false, Bool.true_and, Bool.and_true, Bool.false_and, Bool.and_false, Bool.not_eq_true', decide_eq_true_eq, decide_eq_false_iff_not, not_true_eq_false, not_false_eq_true]
  refine ⟨by simp; omega, ?_⟩
  rw [nms_list]
  have c1 : ¬ (60 : Int) < ((rows.length : Nat) : Int) := by omega
  simp only [wIfS, wOr, wTest, wBin, wCall, wCons, wNil, wVar, wC, wLenSet, wNever, wNext, bLen, dGt, dLt, dInt2, dBool, List.getElem?_cons_zero, List.getElem?_cons_succ, List.set_cons_zero, List.set_cons_succ, List.map_cons, List.map_nil, List.cons_append, List.nil_append, List.length_cons, List.length_nil, List.replicate, Option.some.injEq, Slot.val.injEq, Slot.own.injEq, D.lst.injEq, exists_eq_left', exists_eq_left, exists_eq', true_and, and_true, Nat.reduceAdd, Nat.reduceSub, Nat.reduceLeDiff, Bool.false_eq_true, if_true, if_false, ↓reduceIte, Int.reduceMul, Int.reduceAdd, Int.reduceSub, Int.reduceNeg, Int.reduceLT, Int.reduceLE, Int.reduceEq, Nat.reduceMul, Nat.reduceLT, String.reduceEq, String.reduceNe, Int.reduceToNat, reduceCtorEq, Bool.not_true, Bool.not_false, Bool.true_or, Bool.or_true, Bool.false_or, Bool.or_false, Bool.true_and, Bool.and_true, Bool.false_and, Bool.and_false, Bool.not_eq_true', decide_eq_true_eq, decide_eq_false_iff_not, not_true_eq_false, not_false_eq_true, List.length_map, c1, dl, decide_false, Int.lt_irrefl]
  refine ⟨Nat.le_trans (Nat.le_of_eq nl) (by omega), ?_⟩
  simp only [wSeq, wIfS, wNever, wNext, wNot, wTest, wCall, wCons, wNil, wLc, wRng1, wBin, wVar, wC, wipeE, bLen, dSub, dInt2, List.getElem?_cons_zero, List.getElem?_cons_succ, List.set_cons_zero, List.set_cons_succ, List.map_cons, List.map_nil, List.cons_append, List.nil_append, List.length_cons, List.length_nil, List.replicate, Option.some.injEq, Slot.val.injEq, Slot.own.injEq, D.lst.injEq, exists_eq_left', exists_eq_left, exists_eq', true_and, and_true, Nat.reduceAdd, Nat.reduceSub, Nat.reduceLeDiff, Bool.false_eq_true, if_true, if_false, ↓reduceIte, Int.reduceMul, Int.reduceAdd, Int.reduceSub, Int.reduceNeg, Int.reduceLT, Int.reduceLE, Int.reduceEq, Nat.reduceMul, Nat.reduceLT, String.reduceEq, String.reduceNe, Int.reduceToNat, reduceCtorEq, Bool.not_true, Bool.not_false, Bool.true_or, Bool.or_true, Bool.false_or, Bool.or_false, Bool.true_and, Bool.and_true, Bool.false_and, Bool.and_false, Bool.not_eq_true', decide_eq_true_eq, decide_eq_false_iff_not, not_true_eq_false, not_false_eq_true, List.length_map]
  refine ⟨by omega, ?_⟩
  refine comp_rng0 (n := (((rows.length : Nat) : Int) - 1).toNat) (fun _ => D.bl true) (by omega) (fun i hi P pp => ?_) ?_
  · obtain ⟨p, hp⟩ : ∃ p, rows[i]? = some p := ⟨_, List.getElem?_eq_getElem (by omega)⟩
    obtain ⟨p2, hp2⟩ : ∃ p, rows[i + 1]? = some p := ⟨_, List.getElem?_eq_getElem (by omega)⟩
    have s1 := (g.sz p (List.mem_of_getElem? hp)).mono (show 300 ≤ 1900 by omega)
    have s2 := (g.sz p2 (List.mem_of_getElem? hp2)).mono (show 300 ≤ 1900 by omega)
    have lt : p2.2 < p.2 := by
      obtain ⟨h1, e1⟩ := List.getElem?_eq_some_iff.mp hp
      obtain ⟨h2, e2⟩ := List.getElem?_eq_some_iff.mp hp2
      have := List.pairwise_iff_getElem.mp g.desc i (i + 1) h1 h2 (by omega)
      rw [e1, e2] at this
      exact this
    simp only [wBind, bindT, wCall, wCons, wNil, wBin, wVar, wC, List.getElem?_cons_zero, List.getElem?_cons_succ, List.set_cons_zero, List.set_cons_succ, List.map_cons, List.map_nil, List.cons_append, List.nil_append, List.length_cons, List.length_nil, List.replicate, Option.some.injEq, Slot.val.injEq, Slot.own.injEq, D.lst.injEq, exists_eq_left', exists_eq_left, exists_eq', true_and, and_true, Nat.reduceAdd, Nat.reduceSub, Nat.reduceLeDiff, Bool.false_eq_true, if_true, if_false, ↓reduceIte, Int.reduceMul, Int.reduceAdd, Int.reduceSub, Int.reduceNeg, Int.reduceLT, Int.reduceLE, Int.reduceEq, Nat.reduceMul, Nat.reduceLT, String.reduceEq, String.reduceNe, Int.reduceToNat, reduceCtorEq, Bool.not_true, Bool.not_false, Bool.true_or, Bool.or_true, Bool.false_or, Bool.or_false, Bool.true_and, Bool.and_true, Bool.false_and, Bool.and_false, Bool.not_eq_true', decide_eq_true_eq, decide_eq_false_iff_not, not_true_eq_false, not_false_eq_true, dAdd, ix_grT (p := p2) _ (show (0 : Int) ≤ (i : Int) + 1 by omega) (by rw [show ((i : Int) + 1).toNat = i + 1 by omega]; exact hp2), ix_grT (p := p) _ (show (0 : Int) ≤ (i : Int) by omega) (by simpa using hp), gr1, cl_less, s1, s2, lt, decide_true]
    exact pp
  · simp only [bAll, boolsD_true, List.getElem?_cons_zero, List.getElem?_cons_succ, List.set_cons_zero, List.set_cons_succ, List.map_cons, List.map_nil, List.cons_append, List.nil_append, List.length_cons, List.length_nil, List.replicate, Option.some.injEq, Slot.val.injEq, Slot.own.injEq, D.lst.injEq, exists_eq_left', exists_eq_left, exists_eq', true_and, and_true, Nat.reduceAdd, Nat.reduceSub, Nat.reduceLeDiff, Bool.false_eq_true, if_true, if_false, ↓reduceIte, Int.reduceMul, Int.reduceAdd, Int.reduceSub, Int.reduceNeg, Int.reduceLT, Int.reduceLE, Int.reduceEq, Nat.reduceMul, Nat.reduceLT, String.reduceEq, String.reduceNe, Int.reduceToNat, reduceCtorEq, Bool.not_true, Bool.not_false, Bool.true_or, Bool.or_true, Bool.false_or, Bool.or_false, Bool.true_and, Bool.and_true, Bool.false_and, Bool.and_false, Bool.not_eq_true', decide_eq_true_eq, decide_eq_false_iff_not, not_true_eq_false, not_false_eq_true, dBool]
    have e : (List.all ((List.range (((rows.length : Nat) : Int) - 1).toNat).map fun _ => true) id) = true := by simp
    simp only [e, List.getElem?_cons_zero, List.getElem?_cons_succ, List.set_cons_zero, List.set_cons_succ, List.map_cons, List.map_nil, List.cons_append, List.nil_append, List.length_cons, List.length_nil, List.replicate, Option.some.injEq, Slot.val.injEq, Slot.own.injEq, D.lst.injEq, exists_eq_left', exists_eq_left, exists_eq', true_and, and_true, Nat.reduceAdd, Nat.reduceSub, Nat.reduceLeDiff, Bool.false_eq_true, if_true, if_false, ↓reduceIte, Int.reduceMul, Int.reduceAdd, Int.reduceSub, Int.reduceNeg, Int.reduceLT, Int.reduceLE, Int.reduceEq, Nat.reduceMul, Nat.reduceLT, String.reduceEq, String.reduceNe, Int.reduceToNat, reduceCtorEq, Bool.not_true, Bool.not_false, Bool.true_or, Bool.or_true, Bool.false_or, Bool.or_false, Bool.true_and, Bool.and_true, Bool.false_and, Bool.and_false, Bool.not_eq_true', decide_eq_true_eq, decide_eq_false_iff_not, not_true_eq_false, not_false_eq_true]
    simp only [wSeq, wSetF, wCall, wCons, wNil, wVar, bTuple, AEnds.ini, List.getElem?_cons_zero, List.getElem?_cons_succ, List.set_cons_zero, List.set_cons_succ, List.map_cons, List.map_nil, List.cons_append, List.nil_append, List.length_cons, List.length_nil, List.replicate, Option.some.injEq, Slot.val.injEq, Slot.own.injEq, D.lst.injEq, exists_eq_left', exists_eq_left, exists_eq', true_and, and_true, Nat.reduceAdd, Nat.reduceSub, Nat.reduceLeDiff, Bool.false_eq_true, if_true, if_false, ↓reduceIte, Int.reduceMul, Int.reduceAdd, Int.reduceSub, Int.reduceNeg, Int.reduceLT, Int.reduceLE, Int.reduceEq, Nat.reduceMul, Nat.reduceLT, String.reduceEq, String.reduceNe, Int.reduceToNat, reduceCtorEq, Bool.not_true, Bool.not_false, Bool.true_or, Bool.or_true, Bool.false_or, Bool.or_false, Bool.true_and, Bool.and_true, Bool.false_and, Bool.and_false, Bool.not_eq_true', decide_eq_true_eq, decide_eq_false_iff_not, not_true_eq_false, not_false_eq_true]
    exact ⟨_, _, rfl, by decide, by decide, _, _, rfl, by decide, by decide, _, _, _, rfl, q⟩
def φ_Grades_names : Fn := fun ds Q => ∃ (rows : Rws) (last : Str), ds = [grs rows last] ∧ Gr rows last ∧ Q (.lst ((nms rows last).map D.str))
theorem len_Grades_names (ds : List D) (Q : D → Prop) (h : φ_Grades_names ds Q) : ds.length = 1 := by obtain ⟨_, _, rfl, _⟩ := h; rfl
theorem cl_Grades_names (rows : Rws) (last : Str) (Q : D → Prop) : φ_Grades_names [grs rows last] Q = (Gr rows last ∧ Q (.lst ((nms rows last).map D.str))) := propext ⟨fun ⟨r', l', e, h⟩ => by
    simp only [List.cons.injEq, and_true] at e
    obtain ⟨rfl, rfl⟩ := grs_inj e
    exact h, fun h => ⟨rows, last, rfl, h⟩⟩
/-- Grades.names(self): slots 0=self 1=least 2=name -/
def F_Grades_names : FS :=
  (wRet (wBin dAdd (wLc (wItems (wFld (wVar 0) "Grades" "rows")) (.tup [2, 1]) wYes (wVar 2) [2, 1]) (wLst (wCons (wFld (wVar 0) "Grades" "last") wNil))))

theorem r_Grades_names (ds : List D) (Q : D → Prop) (h : φ_Grades_names ds Q) : F_Grades_names (AEnds.fn Q) (startE 3 ds) := by
  obtain ⟨rows, last, rfl, g, q⟩ := h
  have few := g.few
  simp only [F_Grades_names, wRet, wBin, wLc, wItems, wFld, wVar, wLst, wCons, wNil, wipeE, startE, List.getElem?_cons_zero, List.getElem?_cons_succ, List.set_cons_zero, List.set_cons_succ, List.map_cons, List.map_nil, List.cons_append, List.nil_append, List.length_cons, List.length_nil, List.replicate, Option.some.injEq, Slot.val.injEq, Slot.own.injEq, D.lst.injEq, exists_eq_left', exists_eq_left, exists_eq', true_and, and_true, Nat.reduceAdd, Nat.reduceSub, Nat.reduceLeDiff, Bool.false_eq_true, if_true, if_false, ↓reduceIte, Int.reduceMul, Int.reduceAdd, Int.reduceSub, Int.reduceNeg, Int.reduceLT, Int.reduceLE, Int.reduceEq, Nat.reduceMul, Nat.reduceLT, String.reduceEq, String.reduceNe, Int.reduceToNat, reduceCtorEq, Bool.not_true, Bool.not_false, Bool.true_or, Bool.or_true, Bool.false_or, Bool.or_false, Bool.true_and, Bool.and_true, Bool.false_and, Bool.and_false, Bool.not_eq_true', decide_eq_true_eq, decide_eq_false_iff_not, not_true_eq_false, not_false_eq_true, fld_rows, fld_last, AEnds.fn]
  refine comp_map (k := gr) (g := fun p => D.str p.1) rows [] _ (by simp; omega) (fun p hp P pp => ?_) ?_
  · simp only [wSeq, wNext, wSet, wSetO, wAsg, wFrz, wRet, wRetN, wDrop, wIfS, wNever, wVar, wOwn, wC, wBin, wUn, wNil, wCons, wTup, wLst, wCall, dBool, wAndV, wOrV, wNotV, wIf, wChain, wTest, wAnd, wOr, wNot, wBind, bindT, setAll, wPar, wAug, wMut, wMutSet, wPut, mAppend, mExtend, wItems, wFor, wBreak, wCont, wWhile, wLc, wipeE, wSlice, wNoP, wP, startE, AEnds.law, AEnds.fn, wSetF, wFld, startI, AEnds.ini, wDict, dGet, kLook, keyD, wRng1, wRng2, wRngDown, wZip, wEnum, wRev, wPar3O, wListZip, wSliceT, wLenSet, wLm, mInsert, gr, List.getElem?_cons_zero, List.getElem?_cons_succ, List.set_cons_zero, List.set_cons_succ, List.map_cons, List.map_nil, List.cons_append, List.nil_append, List.length_cons, List.length_nil, List.replicate, Option.some.injEq, Slot.val.injEq, Slot.own.injEq, D.lst.injEq, exists_eq_left', exists_eq_left, exists_eq', true_and, and_true, Nat.reduceAdd, Nat.reduceSub, Nat.reduceLeDiff, Bool.false_eq_true, if_true, if_false, ↓reduceIte, Int.reduceMul, Int.reduceAdd, Int.reduceSub, Int.reduceNeg, Int.reduceLT, Int.reduceLE, Int.reduceEq, Nat.reduceMul, Nat.reduceLT, String.reduceEq, String.reduceNe, Int.reduceToNat, reduceCtorEq, Bool.not_true, Bool.not_false, Bool.true_or, Bool.or_true, Bool.false_or, Bool.or_false, Bool.true_and, Bool.and_true, Bool.false_and, Bool.and_false, Bool.not_eq_true', decide_eq_true_eq, decide_eq_false_iff_not, not_true_eq_false, not_false_eq_true] at pp ⊢
    exact pp
  simp only [dAdd, List.getElem?_cons_zero, List.getElem?_cons_succ, List.set_cons_zero, List.set_cons_succ, List.map_cons, List.map_nil, List.cons_append, List.nil_append, List.length_cons, List.length_nil, List.replicate, Option.some.injEq, Slot.val.injEq, Slot.own.injEq, D.lst.injEq, exists_eq_left', exists_eq_left, exists_eq', true_and, and_true, Nat.reduceAdd, Nat.reduceSub, Nat.reduceLeDiff, Bool.false_eq_true, if_true, if_false, ↓reduceIte, Int.reduceMul, Int.reduceAdd, Int.reduceSub, Int.reduceNeg, Int.reduceLT, Int.reduceLE, Int.reduceEq, Nat.reduceMul, Nat.reduceLT, String.reduceEq, String.reduceNe, Int.reduceToNat, reduceCtorEq, Bool.not_true, Bool.not_false, Bool.true_or, Bool.or_true, Bool.false_or, Bool.or_false, Bool.true_and, Bool.and_true, Bool.false_and, Bool.and_false, Bool.not_eq_true', decide_eq_true_eq, decide_eq_false_iff_not, not_true_eq_false, not_false_eq_true]
  refine ⟨by simp; omega, ?_⟩
  rw [nms_list]
  exact q
/-- the place of a mark's grade -/
def plc (rows : Rws) (a : Rat) : Nat := rows.findIdx fun p => !decide (a < p.2)
def gdR (rows : Rws) (last : Str) (a : Rat) : Str := (rows[plc rows a]?.map (·.1)).getD last
theorem plc_cons (p : Str × Rat) (rows : Rws) (a : Rat) : plc (p :: rows) a = if a < p.2 then plc rows a + 1 else 0 := by
  unfold plc
  rw [List.findIdx_cons]
  by_cases h : a < p.2 <;> simp [h]
theorem gdR_cons (p : Str × Rat) (rows : Rws) (last : Str) (a : Rat) : gdR (p :: rows) last a = if a < p.2 then gdR rows last a else p.1 := by
  unfold gdR
  rw [plc_cons]
  by_cases h : a < p.2 <;> simp [h]
theorem gdR_nil (last : Str) (a : Rat) : gdR [] last a = last := rfl
def φ_Grades_grade : Fn := fun ds Q => ∃ (rows : Rws) (last : Str) (a : Rat), ds = [grs rows last, fr a] ∧ Gr rows last ∧ Sz 1900 a ∧ Q (.str (gdR rows last a))
theorem len_Grades_grade (ds : List D) (Q : D → Prop) (h : φ_Grades_grade ds Q) : ds.length = 2 := by obtain ⟨_, _, _, rfl, _⟩ := h; rfl
theorem cl_Grades_grade (rows : Rws) (last : Str) (a : Rat) (Q : D → Prop) : φ_Grades_grade [grs rows last, fr a] Q = (Gr rows last ∧ Sz 1900 a ∧ Q (.str (gdR rows last a))) := propext ⟨fun ⟨r', l', a', e, h⟩ => by
    simp only [List.cons.injEq, fr_inj, and_true] at e
    obtain ⟨e, rfl⟩ := e
    obtain ⟨rfl, rfl⟩ := grs_inj e
    exact h, fun h => ⟨rows, last, a, rfl, h⟩⟩
/-- Grades.grade(self, mark): slots 0=self 1=mark 2=name 3=least -/
def F_Grades_grade : FS :=
  (wSeq (wFor (.tup [2, 3]) (wItems (wFld (wVar 0) "Grades" "rows"))
      (wIfS (wNot (wTest (wCall φ_less (wCons (wVar 1) (wCons (wVar 3) wNil)))))
      (wRet (wVar 2))
      wNext))
    (wRet (wFld (wVar 0) "Grades" "last")))

theorem grade_loop (A : AEnds) {s0 : Slot} {a : Rat} {last : Str} (ha : Sz 1900 a) (hn : ∀ s2 s3 : Slot, A.rt (.str last) → A.nx [s0, .val (fr a), s2, s3]) : ∀ (rows : Rws) (s2 s3 : Slot), (∀ p ∈ rows, Sz 300 p.2) → A.rt (.str (gdR rows last a)) →
    wForL (.tup [2, 3]) (wIfS (wNot (wTest (wCall φ_less (wCons (wVar 1) (wCons (wVar 3) wNil)))))
      (wRet (wVar 2))
      wNext) (rows.map gr) A [s0, .val (fr a), s2, s3]
  | [], s2, s3, _, q => hn s2 s3 q
  | p :: rows, s2, s3, h, q => by
    have s1 := (h p List.mem_cons_self).mono (show 300 ≤ 1900 by omega)
    rw [gdR_cons] at q
    rw [List.map_cons]
    unfold wForL
    by_cases c : a < p.2
    · rw [if_pos c] at q
      simp only [wSeq, wNext, wSet, wSetO, wAsg, wFrz, wRet, wRetN, wDrop, wIfS, wNever, wVar, wOwn, wC, wBin, wUn, wNil, wCons, wTup, wLst, wCall, dBool, wAndV, wOrV, wNotV, wIf, wChain, wTest, wAnd, wOr, wNot, wBind, bindT, setAll, wPar, wAug, wMut, wMutSet, wPut, mAppend, mExtend, wItems, wFor, wBreak, wCont, wWhile, wLc, wipeE, wSlice, wNoP, wP, startE, AEnds.law, AEnds.fn, wSetF, wFld, startI, AEnds.ini, wDict, dGet, kLook, keyD, wRng1, wRng2, wRngDown, wZip, wEnum, wRev, wPar3O, wListZip, wSliceT, wLenSet, wLm, mInsert, gr, List.getElem?_cons_zero, List.getElem?_cons_succ, List.set_cons_zero, List.set_cons_succ, List.map_cons, List.map_nil, List.cons_append, List.nil_append, List.length_cons, List.length_nil, List.replicate, Option.some.injEq, Slot.val.injEq, Slot.own.injEq, D.lst.injEq, exists_eq_left', exists_eq_left, exists_eq', true_and, and_true, Nat.reduceAdd, Nat.reduceSub, Nat.reduceLeDiff, Bool.false_eq_true, if_true, if_false, ↓reduceIte, Int.reduceMul, Int.reduceAdd, Int.reduceSub, Int.reduceNeg, Int.reduceLT, Int.reduceLE, Int.reduceEq, Nat.reduceMul, Nat.reduceLT, String.reduceEq, String.reduceNe, Int.reduceToNat, reduceCtorEq, Bool.not_true, Bool.not_false, Bool.true_or, Bool.or_true, Bool.false_or, Bool.or_false, Bool.true_and, Bool.and_true, Bool.false_and, Bool.and_false, Bool.not_eq_true', decide_eq_true_eq, decide_eq_false_iff_not, not_true_eq_false, not_false_eq_true, cl_less, ha, s1, c, decide_true]
      exact grade_loop A ha hn rows _ _ (fun x hx => h x (List.mem_cons_of_mem _ hx)) q
    · rw [if_neg c] at q
      simp only [wSeq, wNext, wSet, wSetO, wAsg, wFrz, wRet, wRetN, wDrop, wIfS, wNever, wVar, wOwn, wC, wBin, wUn, wNil, wCons, wTup, wLst, wCall, dBool, wAndV, wOrV, wNotV, wIf, wChain, wTest, wAnd, wOr, wNot, wBind, bindT, setAll, wPar, wAug, wMut, wMutSet, wPut, mAppend, mExtend, wItems, wFor, wBreak, wCont, wWhile, wLc, wipeE, wSlice, wNoP, wP, startE, AEnds.law, AEnds.fn, wSetF, wFld, startI, AEnds.ini, wDict, dGet, kLook, keyD, wRng1, wRng2, wRngDown, wZip, wEnum, wRev, wPar3O, wListZip, wSliceT, wLenSet, wLm, mInsert, gr, List.getElem?_cons_zero, List.getElem?_cons_succ, List.set_cons_zero, List.set_cons_succ, List.map_cons, List.map_nil, List.cons_append, List.nil_append, List.length_cons, List.length_nil, List.replicate, Option.some.injEq, Slot.val.injEq, Slot.own.injEq, D.lst.injEq, exists_eq_left', exists_eq_left, exists_eq', true_and, and_true, Nat.reduceAdd, Nat.reduceSub, Nat.reduceLeDiff, Bool.false_eq_true, if_true, if_false, ↓reduceIte, Int.reduceMul, Int.reduceAdd, Int.reduceSub, Int.reduceNeg, Int.reduceLT, Int.reduceLE, Int.reduceEq, Nat.reduceMul, Nat.reduceLT, String.reduceEq, String.reduceNe, Int.reduceToNat, reduceCtorEq, Bool.not_true, Bool.not_false, Bool.true_or, Bool.or_true, Bool.false_or, Bool.or_false, Bool.true_and, Bool.and_true, Bool.false_and, Bool.and_false, Bool.not_eq_true', decide_eq_true_eq, decide_eq_false_iff_not, not_true_eq_false, not_false_eq_true, cl_less, ha, s1, c, decide_false]
      exact q
theorem r_Grades_grade (ds : List D) (Q : D → Prop) (h : φ_Grades_grade ds Q) : F_Grades_grade (AEnds.fn Q) (startE 4 ds) := by
  obtain ⟨rows, last, a, rfl, g, ha, q⟩ := h
  simp only [F_Grades_grade, wSeq, wFor, wItems, wFld, wVar, startE, List.getElem?_cons_zero, List.getElem?_cons_succ, List.set_cons_zero, List.set_cons_succ, List.map_cons, List.map_nil, List.cons_append, List.nil_append, List.length_cons, List.length_nil, List.replicate, Option.some.injEq, Slot.val.injEq, Slot.own.injEq, D.lst.injEq, exists_eq_left', exists_eq_left, exists_eq', true_and, and_true, Nat.reduceAdd, Nat.reduceSub, Nat.reduceLeDiff, Bool.false_eq_true, if_true, if_false, ↓reduceIte, Int.reduceMul, Int.reduceAdd, Int.reduceSub, Int.reduceNeg, Int.reduceLT, Int.reduceLE, Int.reduceEq, Nat.reduceMul, Nat.reduceLT, String.reduceEq, String.reduceNe, Int.reduceToNat, reduceCtorEq, Bool.not_true, Bool.not_false, Bool.true_or, Bool.or_true, Bool.false_or, Bool.or_false, Bool.true_and, Bool.and_true, Bool.false_and, Bool.and_false, Bool.not_eq_true', decide_eq_true_eq, decide_eq_false_iff_not, not_true_eq_false, not_false_eq_true, fld_rows]
  refine grade_loop (last := last) _ ha (fun s2 s3 q => ?_) rows _ _ g.sz q
  simp only [wSeq, wNext, wSet, wSetO, wAsg, wFrz, wRet, wRetN, wDrop, wIfS, wNever, wVar, wOwn, wC, wBin, wUn, wNil, wCons, wTup, wLst, wCall, dBool, wAndV, wOrV, wNotV, wIf, wChain, wTest, wAnd, wOr, wNot, wBind, bindT, setAll, wPar, wAug, wMut, wMutSet, wPut, mAppend, mExtend, wItems, wFor, wBreak, wCont, wWhile, wLc, wipeE, wSlice, wNoP, wP, startE, AEnds.law, AEnds.fn, wSetF, wFld, startI, AEnds.ini, wDict, dGet, kLook, keyD, wRng1, wRng2, wRngDown, wZip, wEnum, wRev, wPar3O, wListZip, wSliceT, wLenSet, wLm, mInsert, List.getElem?_cons_zero, List.getElem?_cons_succ, List.set_cons_zero, List.set_cons_succ, List.map_cons, List.map_nil, List.cons_append, List.nil_append, List.length_cons, List.length_nil, List.replicate, Option.some.injEq, Slot.val.injEq, Slot.own.injEq, D.lst.injEq, exists_eq_left', exists_eq_left, exists_eq', true_and, and_true, Nat.reduceAdd, Nat.reduceSub, Nat.reduceLeDiff, Bool.false_eq_true, if_true, if_false, ↓reduceIte, Int.reduceMul, Int.reduceAdd, Int.reduceSub, Int.reduceNeg, Int.reduceLT, Int.reduceLE, Int.reduceEq, Nat.reduceMul, Nat.reduceLT, String.reduceEq, String.reduceNe, Int.reduceToNat, reduceCtorEq, Bool.not_true, Bool.not_false, Bool.true_or, Bool.or_true, Bool.false_or, Bool.or_false, Bool.true_and, Bool.and_true, Bool.false_and, Bool.and_false, Bool.not_eq_true', decide_eq_true_eq, decide_eq_false_iff_not, not_true_eq_false, not_false_eq_true, fld_last]
  exact q
theorem deq_str (a b : Str) : deq (.str a) (.str b) = decide (a = b) := by
  rw [deq_str_str]
  by_cases h : a = b
  · subst h; simp
  · simp [h]
theorem any_str (ns : List Str) (g : Str) : ((ns.map D.str).any fun y => deq y (.str g)) = decide (g ∈ ns) := by
  induction ns with
  | nil => simp
  | cons n ns ih =>
    rw [List.map_cons, List.any_cons, ih, deq_str]
    by_cases e : n = g
    · subst e; simp
    · have e' : ¬ g = n := fun z => e z.symm
      simp [e, e']
theorem flat_strs' (ns : List Str) : (ns.map D.str).all flatD = true := by simp [flatD]
def φ_Grades_place : Fn := fun ds Q => ∃ (rows : Rws) (last : Str) (j : Nat) (g : Str), ds = [grs rows last, .str g] ∧ Gr rows last ∧ (nms rows last)[j]? = some g ∧ Q (.int j)
theorem len_Grades_place (ds : List D) (Q : D → Prop) (h : φ_Grades_place ds Q) : ds.length = 2 := by obtain ⟨_, _, _, _, rfl, _⟩ := h; rfl
theorem ci_Grades_place {rows : Rws} {last : Str} {j : Nat} {g : Str} {Q : D → Prop} (G : Gr rows last) (hj : (nms rows last)[j]? = some g) (q : Q (.int j)) : φ_Grades_place [grs rows last, .str g] Q := ⟨rows, last, j, g, rfl, G, hj, q⟩
theorem find_str {ns : List Str} (nd : ns.Nodup) {j : Nat} {g : Str} (h : ns[j]? = some g) : (ns.map D.str).findIdx? (fun z => deq z (.str g)) = some j := by
  obtain ⟨hl, e⟩ := List.getElem?_eq_some_iff.mp h
  rw [List.findIdx?_eq_some_iff_getElem]
  refine ⟨by simpa using hl, ?_, fun i hi => ?_⟩
  · rw [List.getElem_map, deq_str, e]; simp
  · rw [List.getElem_map, deq_str]
    have hil : i < ns.length := by omega
    have ne : ns[i] ≠ g := fun z => by
      have := List.pairwise_iff_getElem.mp nd i j hil hl hi
      exact this (z.trans e.symm)
    simp [ne]
/-- Grades.place(self, grade): slots 0=self 1=grade -/
def F_Grades_place : FS :=
  (wSeq (wIfS (wTest (wBin dNotIn (wVar 1) (wMeth "Grades" "names" φ_Grades_names (wVar 0) wNil)))
      wNever
      wNext)
    (wRet (wLm bIndex (wMeth "Grades" "names" φ_Grades_names (wVar 0) wNil) (wCons (wVar 1) wNil))))

theorem r_Grades_place (ds : List D) (Q : D → Prop) (h : φ_Grades_place ds Q) : F_Grades_place (AEnds.fn Q) (startE 2 ds) := by
  obtain ⟨rows, last, j, g, rfl, G, hj, q⟩ := h
  have m : g ∈ nms rows last := List.mem_of_getElem? hj
  have fi := find_str G.nod hj
  simp only [F_Grades_place, wSeq, wNext, wSet, wSetO, wAsg, wFrz, wRet, wRetN, wDrop, wIfS, wNever, wVar, wOwn, wC, wBin, wUn, wNil, wCons, wTup, wLst, wCall, dBool, wAndV, wOrV, wNotV, wIf, wChain, wTest, wAnd, wOr, wNot, wBind, bindT, setAll, wPar, wAug, wMut, wMutSet, wPut, mAppend, mExtend, wItems, wFor, wBreak, wCont, wWhile, wLc, wipeE, wSlice, wNoP, wP, startE, AEnds.law, AEnds.fn, wSetF, wFld, startI, AEnds.ini, wDict, dGet, kLook, keyD, wRng1, wRng2, wRngDown, wZip, wEnum, wRev, wPar3O, wListZip, wSliceT, wLenSet, wLm, mInsert, wMeth, List.getElem?_cons_zero, List.getElem?_cons_succ, List.set_cons_zero, List.set_cons_succ, List.map_cons, List.map_nil, List.cons_append, List.nil_append, List.length_cons, List.length_nil, List.replicate, Option.some.injEq, Slot.val.injEq, Slot.own.injEq, D.lst.injEq, exists_eq_left', exists_eq_left, exists_eq', true_and, and_true, Nat.reduceAdd, Nat.reduceSub, Nat.reduceLeDiff, Bool.false_eq_true, if_true, if_false, ↓reduceIte, Int.reduceMul, Int.reduceAdd, Int.reduceSub, Int.reduceNeg, Int.reduceLT, Int.reduceLE, Int.reduceEq, Nat.reduceMul, Nat.reduceLT, String.reduceEq, String.reduceNe, Int.reduceToNat, reduceCtorEq, Bool.not_true, Bool.not_false, Bool.true_or, Bool.or_true, Bool.false_or, Bool.or_false, Bool.true_and, Bool.and_true, Bool.false_and, Bool.and_false, Bool.not_eq_true', decide_eq_true_eq, decide_eq_false_iff_not, not_true_eq_false, not_false_eq_true, okM_names, cl_Grades_names, G, dNotIn, flatD, flat_strs', any_str, m, decide_true, bIndex, fi]
  exact q
def cnts (rows : Rws) (last : Str) (ms : List Rat) : List Nat := (nms rows last).map fun n => (ms.map (gdR rows last)).count n
def natD (n : Nat) : D := .int n
theorem count_str (l : List Str) (g : Str) : ((l.map D.str).countP fun z => deq z (.str g)) = l.count g := by
  induction l with
  | nil => rfl
  | cons n l ih =>
    rw [List.map_cons, List.countP_cons, ih, List.count_cons, deq_str]
    by_cases e : n = g <;> simp [e]
def φ_Grades_counts : Fn := fun ds Q => ∃ (rows : Rws) (last : Str) (ms : List Rat), ds = [grs rows last, .lst (ms.map fr)] ∧ Gr rows last ∧ ms.length ≤ 1000 ∧ (∀ a ∈ ms, Sz 1900 a) ∧ Q (.lst ((cnts rows last ms).map natD))
theorem len_Grades_counts (ds : List D) (Q : D → Prop) (h : φ_Grades_counts ds Q) : ds.length = 2 := by obtain ⟨_, _, _, rfl, _⟩ := h; rfl
theorem ci_Grades_counts {rows : Rws} {last : Str} {ms : List Rat} {Q : D → Prop} (G : Gr rows last) (hl : ms.length ≤ 1000) (hs : ∀ a ∈ ms, Sz 1900 a) (q : Q (.lst ((cnts rows last ms).map natD))) : φ_Grades_counts [grs rows last, .lst (ms.map fr)] Q := ⟨rows, last, ms, rfl, G, hl, hs, q⟩
/-- Grades.counts(self, marks): slots 0=self 1=marks 2=grades 3=mark 4=name -/
def F_Grades_counts : FS :=
  (wSeq (wSet 2 (wLc (wItems (wVar 1)) (.name 3) wYes (wMeth "Grades" "grade" φ_Grades_grade (wVar 0) (wCons (wVar 3) wNil)) [3]))
    (wRet (wLc (wItems (wMeth "Grades" "names" φ_Grades_names (wVar 0) wNil)) (.name 4) wYes (wLm bCount (wVar 2) (wCons (wVar 4) wNil)) [4])))

theorem r_Grades_counts (ds : List D) (Q : D → Prop) (h : φ_Grades_counts ds Q) : F_Grades_counts (AEnds.fn Q) (startE 5 ds) := by
  obtain ⟨rows, last, ms, rfl, G, hl, hs, q⟩ := h
  have few := G.few
  simp only [F_Grades_counts, wSeq, wSet, wRet, wLc, wItems, wVar, wipeE, startE, AEnds.fn, List.getElem?_cons_zero, List.getElem?_cons_succ, List.set_cons_zero, List.set_cons_succ, List.map_cons, List.map_nil, List.cons_append, List.nil_append, List.length_cons, List.length_nil, List.replicate, Option.some.injEq, Slot.val.injEq, Slot.own.injEq, D.lst.injEq, exists_eq_left', exists_eq_left, exists_eq', true_and, and_true, Nat.reduceAdd, Nat.reduceSub, Nat.reduceLeDiff, Bool.false_eq_true, if_true, if_false, ↓reduceIte, Int.reduceMul, Int.reduceAdd, Int.reduceSub, Int.reduceNeg, Int.reduceLT, Int.reduceLE, Int.reduceEq, Nat.reduceMul, Nat.reduceLT, String.reduceEq, String.reduceNe, Int.reduceToNat, reduceCtorEq, Bool.not_true, Bool.not_false, Bool.true_or, Bool.or_true, Bool.false_or, Bool.or_false, Bool.true_and, Bool.and_true, Bool.false_and, Bool.and_false, Bool.not_eq_true', decide_eq_true_eq, decide_eq_false_iff_not, not_true_eq_false, not_false_eq_true]
  refine comp_map (k := fr) (g := fun a => D.str (gdR rows last a)) ms [] _ (by simp; omega) (fun a ha P pp => ?_) ?_
  · simp only [wSeq, wNext, wSet, wSetO, wAsg, wFrz, wRet, wRetN, wDrop, wIfS, wNever, wVar, wOwn, wC, wBin, wUn, wNil, wCons, wTup, wLst, wCall, dBool, wAndV, wOrV, wNotV, wIf, wChain, wTest, wAnd, wOr, wNot, wBind, bindT, setAll, wPar, wAug, wMut, wMutSet, wPut, mAppend, mExtend, wItems, wFor, wBreak, wCont, wWhile, wLc, wipeE, wSlice, wNoP, wP, startE, AEnds.law, AEnds.fn, wSetF, wFld, startI, AEnds.ini, wDict, dGet, kLook, keyD, wRng1, wRng2, wRngDown, wZip, wEnum, wRev, wPar3O, wListZip, wSliceT, wLenSet, wLm, mInsert, wMeth, List.getElem?_cons_zero, List.getElem?_cons_succ, List.set_cons_zero, List.set_cons_succ, List.map_cons, List.map_nil, List.cons_append, List.nil_append, List.length_cons, List.length_nil, List.replicate, Option.some.injEq, Slot.val.injEq, Slot.own.injEq, D.lst.injEq, exists_eq_left', exists_eq_left, exists_eq', true_and, and_true, Nat.reduceAdd, Nat.reduceSub, Nat.reduceLeDiff, Bool.false_eq_true, if_true, if_false, ↓reduceIte, Int.reduceMul, Int.reduceAdd, Int.reduceSub, Int.reduceNeg, Int.reduceLT, Int.reduceLE, Int.reduceEq, Nat.reduceMul, Nat.reduceLT, String.reduceEq, String.reduceNe, Int.reduceToNat, reduceCtorEq, Bool.not_true, Bool.not_false, Bool.true_or, Bool.or_true, Bool.false_or, Bool.or_false, Bool.true_and, Bool.and_true, Bool.false_and, Bool.and_false, Bool.not_eq_true', decide_eq_true_eq, decide_eq_false_iff_not, not_true_eq_false, not_false_eq_true, okM_grade, cl_Grades_grade, G, hs a ha] at pp ⊢
    exact pp
  simp only [wMeth, wVar, wNil, List.getElem?_cons_zero, List.getElem?_cons_succ, List.set_cons_zero, List.set_cons_succ, List.map_cons, List.map_nil, List.cons_append, List.nil_append, List.length_cons, List.length_nil, List.replicate, Option.some.injEq, Slot.val.injEq, Slot.own.injEq, D.lst.injEq, exists_eq_left', exists_eq_left, exists_eq', true_and, and_true, Nat.reduceAdd, Nat.reduceSub, Nat.reduceLeDiff, Bool.false_eq_true, if_true, if_false, ↓reduceIte, Int.reduceMul, Int.reduceAdd, Int.reduceSub, Int.reduceNeg, Int.reduceLT, Int.reduceLE, Int.reduceEq, Nat.reduceMul, Nat.reduceLT, String.reduceEq, String.reduceNe, Int.reduceToNat, reduceCtorEq, Bool.not_true, Bool.not_false, Bool.true_or, Bool.or_true, Bool.false_or, Bool.or_false, Bool.true_and, Bool.and_true, Bool.false_and, Bool.and_false, Bool.not_eq_true', decide_eq_true_eq, decide_eq_false_iff_not, not_true_eq_false, not_false_eq_true, okM_names, cl_Grades_names, G]
  have e : ms.map (fun a => D.str (gdR rows last a)) = (ms.map (gdR rows last)).map D.str := by rw [List.map_map]; rfl
  rw [e]
  refine comp_map (k := D.str) (g := fun n => natD ((ms.map (gdR rows last)).count n)) (nms rows last) [] _ (by rw [nms_len]; simp; omega) (fun n hn P pp => ?_) ?_
  · simp only [wSeq, wNext, wSet, wSetO, wAsg, wFrz, wRet, wRetN, wDrop, wIfS, wNever, wVar, wOwn, wC, wBin, wUn, wNil, wCons, wTup, wLst, wCall, dBool, wAndV, wOrV, wNotV, wIf, wChain, wTest, wAnd, wOr, wNot, wBind, bindT, setAll, wPar, wAug, wMut, wMutSet, wPut, mAppend, mExtend, wItems, wFor, wBreak, wCont, wWhile, wLc, wipeE, wSlice, wNoP, wP, startE, AEnds.law, AEnds.fn, wSetF, wFld, startI, AEnds.ini, wDict, dGet, kLook, keyD, wRng1, wRng2, wRngDown, wZip, wEnum, wRev, wPar3O, wListZip, wSliceT, wLenSet, wLm, mInsert, List.getElem?_cons_zero, List.getElem?_cons_succ, List.set_cons_zero, List.set_cons_succ, List.map_cons, List.map_nil, List.cons_append, List.nil_append, List.length_cons, List.length_nil, List.replicate, Option.some.injEq, Slot.val.injEq, Slot.own.injEq, D.lst.injEq, exists_eq_left', exists_eq_left, exists_eq', true_and, and_true, Nat.reduceAdd, Nat.reduceSub, Nat.reduceLeDiff, Bool.false_eq_true, if_true, if_false, ↓reduceIte, Int.reduceMul, Int.reduceAdd, Int.reduceSub, Int.reduceNeg, Int.reduceLT, Int.reduceLE, Int.reduceEq, Nat.reduceMul, Nat.reduceLT, String.reduceEq, String.reduceNe, Int.reduceToNat, reduceCtorEq, Bool.not_true, Bool.not_false, Bool.true_or, Bool.or_true, Bool.false_or, Bool.or_false, Bool.true_and, Bool.and_true, Bool.false_and, Bool.and_false, Bool.not_eq_true', decide_eq_true_eq, decide_eq_false_iff_not, not_true_eq_false, not_false_eq_true, bCount, flatD, flat_strs', count_str]
    exact pp
  · have e2 : [] ++ (nms rows last).map (fun n => natD ((ms.map (gdR rows last)).count n)) = (cnts rows last ms).map natD := by unfold cnts; rw [List.map_map]; rfl
    rw [e2]
    exact q
/-- sums so far -/
def sumsF : Nat → List Nat → List Nat
  | _, [] => []
  | s, n :: ns => (n + s) :: sumsF (n + s) ns
def φ_Grades_at_least : Fn := fun ds Q => ∃ (rows : Rws) (last : Str) (ms : List Rat), ds = [grs rows last, .lst (ms.map fr)] ∧ Gr rows last ∧ ms.length ≤ 1000 ∧ (∀ a ∈ ms, Sz 1900 a) ∧ Q (.lst ((sumsF 0 (cnts rows last ms)).map natD))
theorem len_Grades_at_least (ds : List D) (Q : D → Prop) (h : φ_Grades_at_least ds Q) : ds.length = 2 := by obtain ⟨_, _, _, rfl, _⟩ := h; rfl
theorem ci_Grades_at_least {rows : Rws} {last : Str} {ms : List Rat} {Q : D → Prop} (G : Gr rows last) (hl : ms.length ≤ 1000) (hs : ∀ a ∈ ms, Sz 1900 a) (q : Q (.lst ((sumsF 0 (cnts rows last ms)).map natD))) : φ_Grades_at_least [grs rows last, .lst (ms.map fr)] Q := ⟨rows, last, ms, rfl, G, hl, hs, q⟩
/-- Grades.at_least(self, marks): slots 0=self 1=marks 2=found 3=count -/
def F_Grades_at_least : FS :=
  (wSeq (wSetO 2 (wLst wNil))
    (wSeq (wFor (.name 3) (wItems (wMeth "Grades" "counts" φ_Grades_counts (wVar 0) (wCons (wVar 1) wNil)))
      (wMut 2 mAppend (wCons (wBin dAdd (wVar 3) (wIf (wTest (wBin dGt (wCall bLen (wCons (wOwn 2) wNil)) (wC (.int 0)))) (wBin dIx (wOwn 2) (wUn dNeg (wC (.int 1)))) (wC (.int 0)))) wNil)))
    (wSeq (wFrz 2) (wRet (wVar 2)))))

theorem ix_last {xs : List D} {d : D} (Q : D → Prop) : dIx (.lst (xs ++ [d])) (.int (-1)) Q = Q d := by
  have e : ixD (xs ++ [d]).length (-1) = some xs.length := by
    unfold ixD
    rw [if_neg (by omega), if_pos (by simp; omega)]
    simp
    omega
  show (∃ z, ((ixD (xs ++ [d]).length (-1)).bind fun j => (xs ++ [d])[j]?) = some z ∧ Q z) = Q d
  rw [e, Option.bind_some]
  simp
theorem at_least_loop (A : AEnds) {s0 s1 : Slot} : ∀ (L : List Nat) (acc : List Nat) (s : Nat) (s3 : Slot), acc.length + L.length ≤ 1000 → (acc = [] ∧ s = 0 ∨ ∃ b, acc = b ++ [s]) → (∀ s3 : Slot, A.nx [s0, s1, .own (.lst ((acc ++ sumsF s L).map natD)), s3]) →
    wForL (.name 3) (wMut 2 mAppend (wCons (wBin dAdd (wVar 3) (wIf (wTest (wBin dGt (wCall bLen (wCons (wOwn 2) wNil)) (wC (.int 0)))) (wBin dIx (wOwn 2) (wUn dNeg (wC (.int 1)))) (wC (.int 0)))) wNil)) (L.map natD) A [s0, s1, .own (.lst (acc.map natD)), s3]
  | [], acc, s, s3, _, _, q => by
    have := q s3
    simp only [sumsF, List.append_nil] at this
    exact this
  | n :: L, acc, s, s3, hl, hs, q => by
    simp only [List.length_cons] at hl
    rw [List.map_cons]
    unfold wForL
    have nx : wForL (.name 3) (wMut 2 mAppend (wCons (wBin dAdd (wVar 3) (wIf (wTest (wBin dGt (wCall bLen (wCons (wOwn 2) wNil)) (wC (.int 0)))) (wBin dIx (wOwn 2) (wUn dNeg (wC (.int 1)))) (wC (.int 0)))) wNil)) (L.map natD) A [s0, s1, .own (.lst ((acc ++ [n + s]).map natD)), .val (natD n)] :=
      at_least_loop A L (acc ++ [n + s]) (n + s) _ (by simp; omega) (.inr ⟨acc, rfl⟩) fun s3 => by
        have := q s3
        simp only [sumsF] at this
        rw [List.append_assoc]
        exact this
    generalize wForL (.name 3) _ (L.map natD) = W at nx ⊢
    rcases hs with ⟨rfl, rfl⟩ | ⟨b, rfl⟩
    · simp only [wSeq, wNext, wSet, wSetO, wAsg, wFrz, wRet, wRetN, wDrop, wIfS, wNever, wVar, wOwn, wC, wBin, wUn, wNil, wCons, wTup, wLst, wCall, dBool, wAndV, wOrV, wNotV, wIf, wChain, wTest, wAnd, wOr, wNot, wBind, bindT, setAll, wPar, wAug, wMut, wMutSet, wPut, mAppend, mExtend, wItems, wFor, wBreak, wCont, wWhile, wLc, wipeE, wSlice, wNoP, wP, startE, AEnds.law, AEnds.fn, wSetF, wFld, startI, AEnds.ini, wDict, dGet, kLook, keyD, wRng1, wRng2, wRngDown, wZip, wEnum, wRev, wPar3O, wListZip, wSliceT, wLenSet, wLm, mInsert, List.getElem?_cons_zero, List.getElem?_cons_succ, List.set_cons_zero, List.set_cons_succ, List.map_cons, List.map_nil, List.cons_append, List.nil_append, List.length_cons, List.length_nil, List.replicate, Option.some.injEq, Slot.val.injEq, Slot.own.injEq, D.lst.injEq, exists_eq_left', exists_eq_left, exists_eq', true_and, and_true, Nat.reduceAdd, Nat.reduceSub, Nat.reduceLeDiff, Bool.false_eq_true, if_true, if_false, ↓reduceIte, Int.reduceMul, Int.reduceAdd, Int.reduceSub, Int.reduceNeg, Int.reduceLT, Int.reduceLE, Int.reduceEq, Nat.reduceMul, Nat.reduceLT, String.reduceEq, String.reduceNe, Int.reduceToNat, reduceCtorEq, Bool.not_true, Bool.not_false, Bool.true_or, Bool.or_true, Bool.false_or, Bool.or_false, Bool.true_and, Bool.and_true, Bool.false_and, Bool.and_false, Bool.not_eq_true', decide_eq_true_eq, decide_eq_false_iff_not, not_true_eq_false, not_false_eq_true, dIn, dNotIn, flatD, List.all_cons, List.all_nil, List.any_cons, List.any_nil, dInt2, dSub, dFdiv, dMod, dLt, dLe, dGt, dGe, dPow, dNeg, dAdd, dMul, dEq, dNe, dIsN, dNotN, isNon_non, isNon_bl, isNon_int, isNon_str, isNon_tup, isNon_lst, isNon_fr, deq_non_non, deq_non_bl, deq_non_int, deq_non_str, deq_non_tup, deq_non_lst, deq_bl_non, deq_bl_bl, deq_bl_str, deq_bl_tup, deq_bl_lst, deq_int_non, deq_int_int, deq_int_str, deq_int_tup, deq_int_lst, deq_str_non, deq_str_bl, deq_str_int, deq_str_str, deq_str_tup, deq_str_lst, deq_tup_non, deq_tup_bl, deq_tup_int, deq_tup_str, deq_tup_tup, deq_tup_lst, deq_lst_non, deq_lst_bl, deq_lst_int, deq_lst_str, deq_lst_tup, deq_lst_lst, deqs_nil, deqs_cons, deqs_nil_cons, deqs_cons_nil, deq_fr_non, deq_non_fr, plain_non, plain_bl, plain_int, plain_lit, plains_nil, plains_cons, plain_lst20, plain_tup20, plain_lst19, plain_tup19, plain_tup18, plain_fr19, plain_fr18, deqs_frs, plains_frs19, decide_true, decide_false, ix0, ix1, deq_fr, plain_fr20, fr_def, fr_neg, fr_neg', okStr_lit, beq_lit, bLen, bAbs, bMax2, bMin2, bInt, bGcd, bList, bTuple, ofString_inj, natD, bLen, Int.lt_irrefl, decide_false, Int.natCast_zero]
      simp only [List.map_append, List.map_cons, List.map_nil, List.nil_append, natD, Nat.add_zero] at nx
      simpa using nx
    · have c : (0 : Int) < (((b ++ [s]).map natD).length : Nat) := by simp
      have d : ∀ Q : D → Prop, dIx (.lst ((b ++ [s]).map natD)) (.int (-1)) Q = Q (natD s) := fun Q => by rw [List.map_append]; exact ix_last Q
      simp only [wSeq, wNext, wSet, wSetO, wAsg, wFrz, wRet, wRetN, wDrop, wIfS, wNever, wVar, wOwn, wC, wBin, wUn, wNil, wCons, wTup, wLst, wCall, dBool, wAndV, wOrV, wNotV, wIf, wChain, wTest, wAnd, wOr, wNot, wBind, bindT, setAll, wPar, wAug, wMut, wMutSet, wPut, mAppend, mExtend, wItems, wFor, wBreak, wCont, wWhile, wLc, wipeE, wSlice, wNoP, wP, startE, AEnds.law, AEnds.fn, wSetF, wFld, startI, AEnds.ini, wDict, dGet, kLook, keyD, wRng1, wRng2, wRngDown, wZip, wEnum, wRev, wPar3O, wListZip, wSliceT, wLenSet, wLm, mInsert, bLen, List.getElem?_cons_zero, List.getElem?_cons_succ, List.set_cons_zero, List.set_cons_succ, List.map_cons, List.map_nil, List.cons_append, List.nil_append, List.length_cons, List.length_nil, List.replicate, Option.some.injEq, Slot.val.injEq, Slot.own.injEq, D.lst.injEq, exists_eq_left', exists_eq_left, exists_eq', true_and, and_true, Nat.reduceAdd, Nat.reduceSub, Nat.reduceLeDiff, Bool.false_eq_true, if_true, if_false, ↓reduceIte, Int.reduceMul, Int.reduceAdd, Int.reduceSub, Int.reduceNeg, Int.reduceLT, Int.reduceLE, Int.reduceEq, Nat.reduceMul, Nat.reduceLT, String.reduceEq, String.reduceNe, Int.reduceToNat, reduceCtorEq, Bool.not_true, Bool.not_false, Bool.true_or, Bool.or_true, Bool.false_or, Bool.or_false, Bool.true_and, Bool.and_true, Bool.false_and, Bool.and_false, Bool.not_eq_true', decide_eq_true_eq, decide_eq_false_iff_not, not_true_eq_false, not_false_eq_true, dGt, dInt2, dAdd, dNeg, c, decide_true, d]
      simp only [natD, dAdd, List.length_map, List.length_append, List.length_cons, List.length_nil] at hl ⊢
      refine ⟨by omega, ?_⟩
      have e : ((n : Int) + (s : Int)) = ((n + s : Nat) : Int) := by omega
      rw [e]
      rw [List.map_append] at nx
      exact nx
theorem r_Grades_at_least (ds : List D) (Q : D → Prop) (h : φ_Grades_at_least ds Q) : F_Grades_at_least (AEnds.fn Q) (startE 4 ds) := by
  obtain ⟨rows, last, ms, rfl, G, hl, hs, q⟩ := h
  have few := G.few
  simp only [F_Grades_at_least, wSeq, wSetO, wLst, wNil, wFor, wItems, wMeth, wCons, wVar, startE, AEnds.fn, List.getElem?_cons_zero, List.getElem?_cons_succ, List.set_cons_zero, List.set_cons_succ, List.map_cons, List.map_nil, List.cons_append, List.nil_append, List.length_cons, List.length_nil, List.replicate, Option.some.injEq, Slot.val.injEq, Slot.own.injEq, D.lst.injEq, exists_eq_left', exists_eq_left, exists_eq', true_and, and_true, Nat.reduceAdd, Nat.reduceSub, Nat.reduceLeDiff, Bool.false_eq_true, if_true, if_false, ↓reduceIte, Int.reduceMul, Int.reduceAdd, Int.reduceSub, Int.reduceNeg, Int.reduceLT, Int.reduceLE, Int.reduceEq, Nat.reduceMul, Nat.reduceLT, String.reduceEq, String.reduceNe, Int.reduceToNat, reduceCtorEq, Bool.not_true, Bool.not_false, Bool.true_or, Bool.or_true, Bool.false_or, Bool.or_false, Bool.true_and, Bool.and_true, Bool.false_and, Bool.and_false, Bool.not_eq_true', decide_eq_true_eq, decide_eq_false_iff_not, not_true_eq_false, not_false_eq_true, okM_counts]
  refine ci_Grades_counts G hl hs ?_
  refine at_least_loop _ (cnts rows last ms) [] 0 _ (by unfold cnts; rw [List.length_map, nms_len]; simp; omega) (.inl ⟨rfl, rfl⟩) fun s3 => ?_
  simp only [wSeq, wNext, wSet, wSetO, wAsg, wFrz, wRet, wRetN, wDrop, wIfS, wNever, wVar, wOwn, wC, wBin, wUn, wNil, wCons, wTup, wLst, wCall, dBool, wAndV, wOrV, wNotV, wIf, wChain, wTest, wAnd, wOr, wNot, wBind, bindT, setAll, wPar, wAug, wMut, wMutSet, wPut, mAppend, mExtend, wItems, wFor, wBreak, wCont, wWhile, wLc, wipeE, wSlice, wNoP, wP, startE, AEnds.law, AEnds.fn, wSetF, wFld, startI, AEnds.ini, wDict, dGet, kLook, keyD, wRng1, wRng2, wRngDown, wZip, wEnum, wRev, wPar3O, wListZip, wSliceT, wLenSet, wLm, mInsert, List.getElem?_cons_zero, List.getElem?_cons_succ, List.set_cons_zero, List.set_cons_succ, List.map_cons, List.map_nil, List.cons_append, List.nil_append, List.length_cons, List.length_nil, List.replicate, Option.some.injEq, Slot.val.injEq, Slot.own.injEq, D.lst.injEq, exists_eq_left', exists_eq_left, exists_eq', true_and, and_true, Nat.reduceAdd, Nat.reduceSub, Nat.reduceLeDiff, Bool.false_eq_true, if_true, if_false, ↓reduceIte, Int.reduceMul, Int.reduceAdd, Int.reduceSub, Int.reduceNeg, Int.reduceLT, Int.reduceLE, Int.reduceEq, Nat.reduceMul, Nat.reduceLT, String.reduceEq, String.reduceNe, Int.reduceToNat, reduceCtorEq, Bool.not_true, Bool.not_false, Bool.true_or, Bool.or_true, Bool.false_or, Bool.or_false, Bool.true_and, Bool.and_true, Bool.false_and, Bool.and_false, Bool.not_eq_true', decide_eq_true_eq, decide_eq_false_iff_not, not_true_eq_false, not_false_eq_true]
  exact q
def φ_fraction : Fn := fun ds Q => ∃ t b : Int, ds = [.int t, .int b] ∧ b ≠ 0 ∧ t.natAbs < 2 ^ 4000 ∧ b.natAbs < 2 ^ 4000 ∧ Q (fr (Rat.divInt t b))
theorem len_fraction (ds : List D) (Q : D → Prop) (h : φ_fraction ds Q) : ds.length = 2 := by obtain ⟨_, _, rfl, _⟩ := h; rfl
theorem cl_fraction (t b : Int) (Q : D → Prop) : φ_fraction [.int t, .int b] Q = (b ≠ 0 ∧ t.natAbs < 2 ^ 4000 ∧ b.natAbs < 2 ^ 4000 ∧ Q (fr (Rat.divInt t b))) := propext ⟨fun ⟨t', b', e, h⟩ => by simp only [List.cons.injEq, D.int.injEq, and_true] at e; obtain ⟨rfl, rfl⟩ := e; exact h, fun h => ⟨t, b, rfl, h⟩⟩
/-- fraction(top, bottom): slots 0=top 1=bottom 2=common -/
def F_fraction : FS :=
  (wSeq (wIfS (wTest (wBin dEq (wVar 1) (wC (.int 0))))
      wNever
      wNext)
    (wSeq (wIfS (wTest (wBin dLt (wVar 1) (wC (.int 0))))
      (wPar [0, 1] (wCons (wUn dNeg (wVar 0)) (wCons (wUn dNeg (wVar 1)) wNil)))
      wNext)
    (wSeq (wSet 2 (wCall bGcd (wCons (wVar 0) (wCons (wVar 1) wNil))))
    (wRet (wTup (wCons (wBin dFdiv (wVar 0) (wVar 2)) (wCons (wBin dFdiv (wVar 1) (wVar 2)) wNil)))))))

theorem r_fraction (ds : List D) (Q : D → Prop) (h : φ_fraction ds Q) : F_fraction (AEnds.fn Q) (startE 3 ds) := by
  obtain ⟨t, b, rfl, hb, h1, h2, q⟩ := h
  simp only [F_fraction, wSeq, wNext, wSet, wSetO, wAsg, wFrz, wRet, wRetN, wDrop, wIfS, wNever, wVar, wOwn, wC, wBin, wUn, wNil, wCons, wTup, wLst, wCall, dBool, wAndV, wOrV, wNotV, wIf, wChain, wTest, wAnd, wOr, wNot, wBind, bindT, setAll, wPar, wAug, wMut, wMutSet, wPut, mAppend, mExtend, wItems, wFor, wBreak, wCont, wWhile, wLc, wipeE, wSlice, wNoP, wP, startE, AEnds.law, AEnds.fn, wSetF, wFld, startI, AEnds.ini, wDict, dGet, kLook, keyD, wRng1, wRng2, wRngDown, wZip, wEnum, wRev, wPar3O, wListZip, wSliceT, wLenSet, wLm, mInsert, List.getElem?_cons_zero, List.getElem?_cons_succ, List.set_cons_zero, List.set_cons_succ, List.map_cons, List.map_nil, List.cons_append, List.nil_append, List.length_cons, List.length_nil, List.replicate, Option.some.injEq, Slot.val.injEq, Slot.own.injEq, D.lst.injEq, exists_eq_left', exists_eq_left, exists_eq', true_and, and_true, Nat.reduceAdd, Nat.reduceSub, Nat.reduceLeDiff, Bool.false_eq_true, if_true, if_false, ↓reduceIte, Int.reduceMul, Int.reduceAdd, Int.reduceSub, Int.reduceNeg, Int.reduceLT, Int.reduceLE, Int.reduceEq, Nat.reduceMul, Nat.reduceLT, String.reduceEq, String.reduceNe, Int.reduceToNat, reduceCtorEq, Bool.not_true, Bool.not_false, Bool.true_or, Bool.or_true, Bool.false_or, Bool.or_false, Bool.true_and, Bool.and_true, Bool.false_and, Bool.and_false, Bool.not_eq_true', decide_eq_true_eq, decide_eq_false_iff_not, not_true_eq_false, not_false_eq_true, dIn, dNotIn, flatD, List.all_cons, List.all_nil, List.any_cons, List.any_nil, dInt2, dSub, dFdiv, dMod, dLt, dLe, dGt, dGe, dPow, dNeg, dAdd, dMul, dEq, dNe, dIsN, dNotN, isNon_non, isNon_bl, isNon_int, isNon_str, isNon_tup, isNon_lst, isNon_fr, deq_non_non, deq_non_bl, deq_non_int, deq_non_str, deq_non_tup, deq_non_lst, deq_bl_non, deq_bl_bl, deq_bl_str, deq_bl_tup, deq_bl_lst, deq_int_non, deq_int_int, deq_int_str, deq_int_tup, deq_int_lst, deq_str_non, deq_str_bl, deq_str_int, deq_str_str, deq_str_tup, deq_str_lst, deq_tup_non, deq_tup_bl, deq_tup_int, deq_tup_str, deq_tup_tup, deq_tup_lst, deq_lst_non, deq_lst_bl, deq_lst_int, deq_lst_str, deq_lst_tup, deq_lst_lst, deqs_nil, deqs_cons, deqs_nil_cons, deqs_cons_nil, deq_fr_non, deq_non_fr, plain_non, plain_bl, plain_int, plain_lit, plains_nil, plains_cons, plain_lst20, plain_tup20, plain_lst19, plain_tup19, plain_tup18, plain_fr19, plain_fr18, deqs_frs, plains_frs19, decide_true, decide_false, ix0, ix1, deq_fr, plain_fr20, fr_def, fr_neg, fr_neg', okStr_lit, beq_lit, bLen, bAbs, bMax2, bMin2, bInt, bGcd, bList, bTuple, ofString_inj]
  refine ifF (by simpa using hb) ?_
  have hg : (t.natAbs.gcd b.natAbs) < 2 ^ 4000 := Nat.lt_of_le_of_lt (Nat.gcd_le_right _ (by omega)) h2
  have hg0 : 0 < t.natAbs.gcd b.natAbs := Nat.gcd_pos_of_pos_right _ (by omega)
  split
  · rename_i hn
    have hn : b < 0 := by simpa using hn
    simp only [Int.natAbs_neg]
    refine ⟨cd_of (n := 4000) (by omega) (by simpa using hg) (by omega), cd_of (n := 4000) (by omega) (by simpa using hg) (by omega), ?_⟩
    have e : fr (Rat.divInt t b) = D.tup [.int (-t / (t.natAbs.gcd b.natAbs : Nat)), .int (-b / (t.natAbs.gcd b.natAbs : Nat))] := by
      unfold fr
      rw [Rat.num_divInt, Rat.den_divInt, if_neg hb, Int.sign_eq_neg_one_of_neg hn, Int.gcd_comm]
      have h3 : (b.natAbs : Int) = -b := by omega
      rw [Int.natCast_ediv, h3]
      simp [Int.gcd]
    rw [← e]
    exact q
  · rename_i hn
    have hn : 0 < b := by
      have : ¬ b < 0 := by simpa using hn
      omega
    refine ⟨cd_of (n := 4000) (by omega) (by simpa using hg) (by omega), cd_of (n := 4000) (by omega) (by simpa using hg) (by omega), ?_⟩
    have e : fr (Rat.divInt t b) = D.tup [.int (t / (t.natAbs.gcd b.natAbs : Nat)), .int (b / (t.natAbs.gcd b.natAbs : Nat))] := by
      unfold fr
      rw [Rat.num_divInt, Rat.den_divInt, if_neg hb, Int.sign_eq_one_of_pos hn, Int.gcd_comm]
      have h3 : (b.natAbs : Int) = b := by omega
      rw [Int.natCast_ediv, h3]
      simp [Int.gcd]
    rw [← e]
    exact q
def φ_minus : Fn := fun ds Q => ∃ a b : Rat, ds = [fr a, fr b] ∧ Sz 1900 a ∧ Sz 1900 b ∧ Q (fr (a - b))
theorem len_minus (ds : List D) (Q : D → Prop) (h : φ_minus ds Q) : ds.length = 2 := by obtain ⟨_, _, rfl, _⟩ := h; rfl
theorem cl_minus (a b : Rat) (Q : D → Prop) : φ_minus [fr a, fr b] Q = (Sz 1900 a ∧ Sz 1900 b ∧ Q (fr (a - b))) := propext ⟨fun ⟨t', b', e, h⟩ => by simp only [List.cons.injEq, fr_inj, and_true] at e; obtain ⟨rfl, rfl⟩ := e; exact h, fun h => ⟨a, b, rfl, h⟩⟩
/-- minus(a, b): slots 0=a 1=b -/
def F_minus : FS :=
  (wRet (wCall φ_fraction (wCons (wBin dSub (wBin dMul (wBin dIx (wVar 0) (wC (.int 0))) (wBin dIx (wVar 1) (wC (.int 1)))) (wBin dMul (wBin dIx (wVar 1) (wC (.int 0))) (wBin dIx (wVar 0) (wC (.int 1))))) (wCons (wBin dMul (wBin dIx (wVar 0) (wC (.int 1))) (wBin dIx (wVar 1) (wC (.int 1)))) wNil))))

theorem r_minus (ds : List D) (Q : D → Prop) (h : φ_minus ds Q) : F_minus (AEnds.fn Q) (startE 2 ds) := by
  obtain ⟨a, b, rfl, ha, hb, q⟩ := h
  simp only [F_minus, wSeq, wNext, wSet, wSetO, wAsg, wFrz, wRet, wRetN, wDrop, wIfS, wNever, wVar, wOwn, wC, wBin, wUn, wNil, wCons, wTup, wLst, wCall, dBool, wAndV, wOrV, wNotV, wIf, wChain, wTest, wAnd, wOr, wNot, wBind, bindT, setAll, wPar, wAug, wMut, wMutSet, wPut, mAppend, mExtend, wItems, wFor, wBreak, wCont, wWhile, wLc, wipeE, wSlice, wNoP, wP, startE, AEnds.law, AEnds.fn, wSetF, wFld, startI, AEnds.ini, wDict, dGet, kLook, keyD, wRng1, wRng2, wRngDown, wZip, wEnum, wRev, wPar3O, wListZip, wSliceT, wLenSet, wLm, mInsert, List.getElem?_cons_zero, List.getElem?_cons_succ, List.set_cons_zero, List.set_cons_succ, List.map_cons, List.map_nil, List.cons_append, List.nil_append, List.length_cons, List.length_nil, List.replicate, Option.some.injEq, Slot.val.injEq, Slot.own.injEq, D.lst.injEq, exists_eq_left', exists_eq_left, exists_eq', true_and, and_true, Nat.reduceAdd, Nat.reduceSub, Nat.reduceLeDiff, Bool.false_eq_true, if_true, if_false, ↓reduceIte, Int.reduceMul, Int.reduceAdd, Int.reduceSub, Int.reduceNeg, Int.reduceLT, Int.reduceLE, Int.reduceEq, Nat.reduceMul, Nat.reduceLT, String.reduceEq, String.reduceNe, Int.reduceToNat, reduceCtorEq, Bool.not_true, Bool.not_false, Bool.true_or, Bool.or_true, Bool.false_or, Bool.or_false, Bool.true_and, Bool.and_true, Bool.false_and, Bool.and_false, Bool.not_eq_true', decide_eq_true_eq, decide_eq_false_iff_not, not_true_eq_false, not_false_eq_true, dIn, dNotIn, flatD, List.all_cons, List.all_nil, List.any_cons, List.any_nil, dInt2, dSub, dFdiv, dMod, dLt, dLe, dGt, dGe, dPow, dNeg, dAdd, dMul, dEq, dNe, dIsN, dNotN, isNon_non, isNon_bl, isNon_int, isNon_str, isNon_tup, isNon_lst, isNon_fr, deq_non_non, deq_non_bl, deq_non_int, deq_non_str, deq_non_tup, deq_non_lst, deq_bl_non, deq_bl_bl, deq_bl_str, deq_bl_tup, deq_bl_lst, deq_int_non, deq_int_int, deq_int_str, deq_int_tup, deq_int_lst, deq_str_non, deq_str_bl, deq_str_int, deq_str_str, deq_str_tup, deq_str_lst, deq_tup_non, deq_tup_bl, deq_tup_int, deq_tup_str, deq_tup_tup, deq_tup_lst, deq_lst_non, deq_lst_bl, deq_lst_int, deq_lst_str, deq_lst_tup, deq_lst_lst, deqs_nil, deqs_cons, deqs_nil_cons, deqs_cons_nil, deq_fr_non, deq_non_fr, plain_non, plain_bl, plain_int, plain_lit, plains_nil, plains_cons, plain_lst20, plain_tup20, plain_lst19, plain_tup19, plain_tup18, plain_fr19, plain_fr18, deqs_frs, plains_frs19, decide_true, decide_false, ix0, ix1, deq_fr, plain_fr20, fr_def, fr_neg, fr_neg', okStr_lit, beq_lit, bLen, bAbs, bMax2, bMin2, bInt, bGcd, bList, bTuple, ofString_inj]
  have n1 := natAbs_mul_lt ha.num (den_lt hb)
  have n2 := natAbs_mul_lt hb.num (den_lt ha)
  have n3 := natAbs_mul_lt (den_lt ha) (den_lt hb)
  have n4 := natAbs_mul_lt ha.num hb.num
  have pp : (2 : Nat) ^ (1900 + 1900) + 2 ^ (1900 + 1900) ≤ 2 ^ 4000 := Nat.le_trans (by rw [← Nat.two_mul, ← Nat.pow_succ']; exact Nat.le_refl _) (pow_mono (show 1900 + 1900 + 1 ≤ 4000 by omega))
  have d0 : (a.den : Int) * b.den ≠ 0 := Int.mul_ne_zero (by have := a.den_nz; omega) (by have := b.den_nz; omega)
  rw [sub_eq_divInt] at q
  rw [Int.natCast_mul] at q
  exact ⟨cm_of (n := 1900) (m := 1900) ha.num (den_lt hb) (by omega), cm_of (n := 1900) (m := 1900) hb.num (den_lt ha) (by omega), cm_of (n := 1900) (m := 1900) (den_lt ha) (den_lt hb) (by omega), _, _, rfl, d0, by omega, by omega, q⟩
theorem plc_name (rows : Rws) (last : Str) (a : Rat) : (nms rows last)[plc rows a]? = some (gdR rows last a) := by
  induction rows with
  | nil => rfl
  | cons p rows ih =>
    rw [plc_cons, gdR_cons]
    by_cases c : a < p.2
    · rw [if_pos c, if_pos c]
      exact ih
    · rw [if_neg c, if_neg c]
      rfl
theorem plc_le (rows : Rws) (a : Rat) : plc rows a ≤ rows.length := List.findIdx_le_length
def nextR (rows : Rws) (a : Rat) : D := if plc rows a = 0 then .non else match rows[plc rows a - 1]? with
  | some p => fr (p.2 - a)
  | none => .non
def edgeR (rows : Rws) (a : Rat) : D := match rows[plc rows a]? with
  | some p => fr (a - p.2)
  | none => .non
def φ_Grades_to_next : Fn := fun ds Q => ∃ (rows : Rws) (last : Str) (a : Rat), ds = [grs rows last, fr a] ∧ Gr rows last ∧ Sz 300 a ∧ Q (nextR rows a)
theorem len_Grades_to_next (ds : List D) (Q : D → Prop) (h : φ_Grades_to_next ds Q) : ds.length = 2 := by obtain ⟨_, _, _, rfl, _⟩ := h; rfl
theorem cl_Grades_to_next (rows : Rws) (last : Str) (a : Rat) (Q : D → Prop) : φ_Grades_to_next [grs rows last, fr a] Q = (Gr rows last ∧ Sz 300 a ∧ Q (nextR rows a)) := propext ⟨fun ⟨r', l', a', e, h⟩ => by
    simp only [List.cons.injEq, fr_inj, and_true] at e
    obtain ⟨e, rfl⟩ := e
    obtain ⟨rfl, rfl⟩ := grs_inj e
    exact h, fun h => ⟨rows, last, a, rfl, h⟩⟩
/-- Grades.to_next(self, mark): slots 0=self 1=mark 2=place -/
def F_Grades_to_next : FS :=
  (wSeq (wSet 2 (wMeth "Grades" "place" φ_Grades_place (wVar 0) (wCons (wMeth "Grades" "grade" φ_Grades_grade (wVar 0) (wCons (wVar 1) wNil)) wNil)))
    (wSeq (wIfS (wTest (wBin dEq (wVar 2) (wC (.int 0))))
      (wRet (wC .non))
      wNext)
    (wRet (wCall φ_minus (wCons (wBin dIx (wBin dIx (wFld (wVar 0) "Grades" "rows") (wBin dSub (wVar 2) (wC (.int 1)))) (wC (.int 1))) (wCons (wVar 1) wNil))))))

theorem r_Grades_to_next (ds : List D) (Q : D → Prop) (h : φ_Grades_to_next ds Q) : F_Grades_to_next (AEnds.fn Q) (startE 3 ds) := by
  obtain ⟨rows, last, a, rfl, G, ha, q⟩ := h
  have ha2 := ha.mono (show 300 ≤ 1900 by omega)
  have few := G.few
  have le := plc_le rows a
  simp only [F_Grades_to_next, wSeq, wSet, wMeth, wCons, wNil, wVar, startE, List.getElem?_cons_zero, List.getElem?_cons_succ, List.set_cons_zero, List.set_cons_succ, List.map_cons, List.map_nil, List.cons_append, List.nil_append, List.length_cons, List.length_nil, List.replicate, Option.some.injEq, Slot.val.injEq, Slot.own.injEq, D.lst.injEq, exists_eq_left', exists_eq_left, exists_eq', true_and, and_true, Nat.reduceAdd, Nat.reduceSub, Nat.reduceLeDiff, Bool.false_eq_true, if_true, if_false, ↓reduceIte, Int.reduceMul, Int.reduceAdd, Int.reduceSub, Int.reduceNeg, Int.reduceLT, Int.reduceLE, Int.reduceEq, Nat.reduceMul, Nat.reduceLT, String.reduceEq, String.reduceNe, Int.reduceToNat, reduceCtorEq, Bool.not_true, Bool.not_false, Bool.true_or, Bool.or_true, Bool.false_or, Bool.or_false, Bool.true_and, Bool.and_true, Bool.false_and, Bool.and_false, Bool.not_eq_true', decide_eq_true_eq, decide_eq_false_iff_not, not_true_eq_false, not_false_eq_true, okM_place, okM_grade, cl_Grades_grade, G, ha2]
  refine ci_Grades_place G (plc_name rows last a) ?_
  unfold nextR at q
  by_cases c : plc rows a = 0
  · rw [if_pos c] at q
    simp only [wSeq, wNext, wSet, wSetO, wAsg, wFrz, wRet, wRetN, wDrop, wIfS, wNever, wVar, wOwn, wC, wBin, wUn, wNil, wCons, wTup, wLst, wCall, dBool, wAndV, wOrV, wNotV, wIf, wChain, wTest, wAnd, wOr, wNot, wBind, bindT, setAll, wPar, wAug, wMut, wMutSet, wPut, mAppend, mExtend, wItems, wFor, wBreak, wCont, wWhile, wLc, wipeE, wSlice, wNoP, wP, startE, AEnds.law, AEnds.fn, wSetF, wFld, startI, AEnds.ini, wDict, dGet, kLook, keyD, wRng1, wRng2, wRngDown, wZip, wEnum, wRev, wPar3O, wListZip, wSliceT, wLenSet, wLm, mInsert, List.getElem?_cons_zero, List.getElem?_cons_succ, List.set_cons_zero, List.set_cons_succ, List.map_cons, List.map_nil, List.cons_append, List.nil_append, List.length_cons, List.length_nil, List.replicate, Option.some.injEq, Slot.val.injEq, Slot.own.injEq, D.lst.injEq, exists_eq_left', exists_eq_left, exists_eq', true_and, and_true, Nat.reduceAdd, Nat.reduceSub, Nat.reduceLeDiff, Bool.false_eq_true, if_true, if_false, ↓reduceIte, Int.reduceMul, Int.reduceAdd, Int.reduceSub, Int.reduceNeg, Int.reduceLT, Int.reduceLE, Int.reduceEq, Nat.reduceMul, Nat.reduceLT, String.reduceEq, String.reduceNe, Int.reduceToNat, reduceCtorEq, Bool.not_true, Bool.not_false, Bool.true_or, Bool.or_true, Bool.false_or, Bool.or_false, Bool.true_and, Bool.and_true, Bool.false_and, Bool.and_false, Bool.not_eq_true', decide_eq_true_eq, decide_eq_false_iff_not, not_true_eq_false, not_false_eq_true, dIn, dNotIn, flatD, List.all_cons, List.all_nil, List.any_cons, List.any_nil, dInt2, dSub, dFdiv, dMod, dLt, dLe, dGt, dGe, dPow, dNeg, dAdd, dMul, dEq, dNe, dIsN, dNotN, isNon_non, isNon_bl, isNon_int, isNon_str, isNon_tup, isNon_lst, isNon_fr, deq_non_non, deq_non_bl, deq_non_int, deq_non_str, deq_non_tup, deq_non_lst, deq_bl_non, deq_bl_bl, deq_bl_str, deq_bl_tup, deq_bl_lst, deq_int_non, deq_int_int, deq_int_str, deq_int_tup, deq_int_lst, deq_str_non, deq_str_bl, deq_str_int, deq_str_str, deq_str_tup, deq_str_lst, deq_tup_non, deq_tup_bl, deq_tup_int, deq_tup_str, deq_tup_tup, deq_tup_lst, deq_lst_non, deq_lst_bl, deq_lst_int, deq_lst_str, deq_lst_tup, deq_lst_lst, deqs_nil, deqs_cons, deqs_nil_cons, deqs_cons_nil, deq_fr_non, deq_non_fr, plain_non, plain_bl, plain_int, plain_lit, plains_nil, plains_cons, plain_lst20, plain_tup20, plain_lst19, plain_tup19, plain_tup18, plain_fr19, plain_fr18, deqs_frs, plains_frs19, decide_true, decide_false, ix0, ix1, deq_fr, plain_fr20, fr_def, fr_neg, fr_neg', okStr_lit, beq_lit, bLen, bAbs, bMax2, bMin2, bInt, bGcd, bList, bTuple, ofString_inj, c, Int.natCast_zero]
    simpa using q
  · rw [if_neg c] at q
    obtain ⟨p, hp⟩ : ∃ p, rows[plc rows a - 1]? = some p := ⟨_, List.getElem?_eq_getElem (by omega)⟩
    rw [hp] at q
    have e : ¬ ((plc rows a : Nat) : Int) = 0 := by omega
    have s1 := (G.sz p (List.mem_of_getElem? hp)).mono (show 300 ≤ 1900 by omega)
    simp only [wSeq, wNext, wSet, wSetO, wAsg, wFrz, wRet, wRetN, wDrop, wIfS, wNever, wVar, wOwn, wC, wBin, wUn, wNil, wCons, wTup, wLst, wCall, dBool, wAndV, wOrV, wNotV, wIf, wChain, wTest, wAnd, wOr, wNot, wBind, bindT, setAll, wPar, wAug, wMut, wMutSet, wPut, mAppend, mExtend, wItems, wFor, wBreak, wCont, wWhile, wLc, wipeE, wSlice, wNoP, wP, startE, AEnds.law, AEnds.fn, wSetF, wFld, startI, AEnds.ini, wDict, dGet, kLook, keyD, wRng1, wRng2, wRngDown, wZip, wEnum, wRev, wPar3O, wListZip, wSliceT, wLenSet, wLm, mInsert, List.getElem?_cons_zero, List.getElem?_cons_succ, List.set_cons_zero, List.set_cons_succ, List.map_cons, List.map_nil, List.cons_append, List.nil_append, List.length_cons, List.length_nil, List.replicate, Option.some.injEq, Slot.val.injEq, Slot.own.injEq, D.lst.injEq, exists_eq_left', exists_eq_left, exists_eq', true_and, and_true, Nat.reduceAdd, Nat.reduceSub, Nat.reduceLeDiff, Bool.false_eq_true, if_true, if_false, ↓reduceIte, Int.reduceMul, Int.reduceAdd, Int.reduceSub, Int.reduceNeg, Int.reduceLT, Int.reduceLE, Int.reduceEq, Nat.reduceMul, Nat.reduceLT, String.reduceEq, String.reduceNe, Int.reduceToNat, reduceCtorEq, Bool.not_true, Bool.not_false, Bool.true_or, Bool.or_true, Bool.false_or, Bool.or_false, Bool.true_and, Bool.and_true, Bool.false_and, Bool.and_false, Bool.not_eq_true', decide_eq_true_eq, decide_eq_false_iff_not, not_true_eq_false, not_false_eq_true, dIn, dNotIn, flatD, List.all_cons, List.all_nil, List.any_cons, List.any_nil, dInt2, dSub, dFdiv, dMod, dLt, dLe, dGt, dGe, dPow, dNeg, dAdd, dMul, dEq, dNe, dIsN, dNotN, isNon_non, isNon_bl, isNon_int, isNon_str, isNon_tup, isNon_lst, isNon_fr, deq_non_non, deq_non_bl, deq_non_int, deq_non_str, deq_non_tup, deq_non_lst, deq_bl_non, deq_bl_bl, deq_bl_str, deq_bl_tup, deq_bl_lst, deq_int_non, deq_int_int, deq_int_str, deq_int_tup, deq_int_lst, deq_str_non, deq_str_bl, deq_str_int, deq_str_str, deq_str_tup, deq_str_lst, deq_tup_non, deq_tup_bl, deq_tup_int, deq_tup_str, deq_tup_tup, deq_tup_lst, deq_lst_non, deq_lst_bl, deq_lst_int, deq_lst_str, deq_lst_tup, deq_lst_lst, deqs_nil, deqs_cons, deqs_nil_cons, deqs_cons_nil, deq_fr_non, deq_non_fr, plain_non, plain_bl, plain_int, plain_lit, plains_nil, plains_cons, plain_lst20, plain_tup20, plain_lst19, plain_tup19, plain_tup18, plain_fr19, plain_fr18, deqs_frs, plains_frs19, decide_true, decide_false, ix0, ix1, deq_fr, plain_fr20, fr_def, fr_neg, fr_neg', okStr_lit, beq_lit, bLen, bAbs, bMax2, bMin2, bInt, bGcd, bList, bTuple, ofString_inj, e, fld_rows, ix_grT (p := p) _ (show (0 : Int) ≤ ((plc rows a : Nat) : Int) - 1 by omega) (by rw [show (((plc rows a : Nat) : Int) - 1).toNat = plc rows a - 1 by omega]; exact hp), gr1, cl_minus, s1, ha2]
    exact q
def φ_Grades_over_edge : Fn := fun ds Q => ∃ (rows : Rws) (last : Str) (a : Rat), ds = [grs rows last, fr a] ∧ Gr rows last ∧ Sz 300 a ∧ Q (edgeR rows a)
theorem len_Grades_over_edge (ds : List D) (Q : D → Prop) (h : φ_Grades_over_edge ds Q) : ds.length = 2 := by obtain ⟨_, _, _, rfl, _⟩ := h; rfl
theorem cl_Grades_over_edge (rows : Rws) (last : Str) (a : Rat) (Q : D → Prop) : φ_Grades_over_edge [grs rows last, fr a] Q = (Gr rows last ∧ Sz 300 a ∧ Q (edgeR rows a)) := propext ⟨fun ⟨r', l', a', e, h⟩ => by
    simp only [List.cons.injEq, fr_inj, and_true] at e
    obtain ⟨e, rfl⟩ := e
    obtain ⟨rfl, rfl⟩ := grs_inj e
    exact h, fun h => ⟨rows, last, a, rfl, h⟩⟩
/-- Grades.over_edge(self, mark): slots 0=self 1=mark 2=place -/
def F_Grades_over_edge : FS :=
  (wSeq (wSet 2 (wMeth "Grades" "place" φ_Grades_place (wVar 0) (wCons (wMeth "Grades" "grade" φ_Grades_grade (wVar 0) (wCons (wVar 1) wNil)) wNil)))
    (wSeq (wIfS (wTest (wBin dEq (wVar 2) (wCall bLen (wCons (wFld (wVar 0) "Grades" "rows") wNil))))
      (wRet (wC .non))
      wNext)
    (wRet (wCall φ_minus (wCons (wVar 1) (wCons (wBin dIx (wBin dIx (wFld (wVar 0) "Grades" "rows") (wVar 2)) (wC (.int 1))) wNil))))))

theorem r_Grades_over_edge (ds : List D) (Q : D → Prop) (h : φ_Grades_over_edge ds Q) : F_Grades_over_edge (AEnds.fn Q) (startE 3 ds) := by
  obtain ⟨rows, last, a, rfl, G, ha, q⟩ := h
  have ha2 := ha.mono (show 300 ≤ 1900 by omega)
  have few := G.few
  have le := plc_le rows a
  simp only [F_Grades_over_edge, wSeq, wSet, wMeth, wCons, wNil, wVar, startE, List.getElem?_cons_zero, List.getElem?_cons_succ, List.set_cons_zero, List.set_cons_succ, List.map_cons, List.map_nil, List.cons_append, List.nil_append, List.length_cons, List.length_nil, List.replicate, Option.some.injEq, Slot.val.injEq, Slot.own.injEq, D.lst.injEq, exists_eq_left', exists_eq_left, exists_eq', true_and, and_true, Nat.reduceAdd, Nat.reduceSub, Nat.reduceLeDiff, Bool.false_eq_true, if_true, if_false, ↓reduceIte, Int.reduceMul, Int.reduceAdd, Int.reduceSub, Int.reduceNeg, Int.reduceLT, Int.reduceLE, Int.reduceEq, Nat.reduceMul, Nat.reduceLT, String.reduceEq, String.reduceNe, Int.reduceToNat, reduceCtorEq, Bool.not_true, Bool.not_false, Bool.true_or, Bool.or_true, Bool.false_or, Bool.or_false, Bool.true_and, Bool.and_true, Bool.false_and, Bool.and_false, Bool.not_eq_true', decide_eq_true_eq, decide_eq_false_iff_not, not_true_eq_false, not_false_eq_true, okM_place, okM_grade, cl_Grades_grade, G, ha2]
  refine ci_Grades_place G (plc_name rows last a) ?_
  unfold edgeR at q
  by_cases c : plc rows a = rows.length
  · rw [c, List.getElem?_eq_none (Nat.le_refl _)] at q
    simp only [wSeq, wNext, wSet, wSetO, wAsg, wFrz, wRet, wRetN, wDrop, wIfS, wNever, wVar, wOwn, wC, wBin, wUn, wNil, wCons, wTup, wLst, wCall, dBool, wAndV, wOrV, wNotV, wIf, wChain, wTest, wAnd, wOr, wNot, wBind, bindT, setAll, wPar, wAug, wMut, wMutSet, wPut, mAppend, mExtend, wItems, wFor, wBreak, wCont, wWhile, wLc, wipeE, wSlice, wNoP, wP, startE, AEnds.law, AEnds.fn, wSetF, wFld, startI, AEnds.ini, wDict, dGet, kLook, keyD, wRng1, wRng2, wRngDown, wZip, wEnum, wRev, wPar3O, wListZip, wSliceT, wLenSet, wLm, mInsert, List.getElem?_cons_zero, List.getElem?_cons_succ, List.set_cons_zero, List.set_cons_succ, List.map_cons, List.map_nil, List.cons_append, List.nil_append, List.length_cons, List.length_nil, List.replicate, Option.some.injEq, Slot.val.injEq, Slot.own.injEq, D.lst.injEq, exists_eq_left', exists_eq_left, exists_eq', true_and, and_true, Nat.reduceAdd, Nat.reduceSub, Nat.reduceLeDiff, Bool.false_eq_true, if_true, if_false, ↓reduceIte, Int.reduceMul, Int.reduceAdd, Int.reduceSub, Int.reduceNeg, Int.reduceLT, Int.reduceLE, Int.reduceEq, Nat.reduceMul, Nat.reduceLT, String.reduceEq, String.reduceNe, Int.reduceToNat, reduceCtorEq, Bool.not_true, Bool.not_false, Bool.true_or, Bool.or_true, Bool.false_or, Bool.or_false, Bool.true_and, Bool.and_true, Bool.false_and, Bool.and_false, Bool.not_eq_true', decide_eq_true_eq, decide_eq_false_iff_not, not_true_eq_false, not_false_eq_true, dIn, dNotIn, flatD, List.all_cons, List.all_nil, List.any_cons, List.any_nil, dInt2, dSub, dFdiv, dMod, dLt, dLe, dGt, dGe, dPow, dNeg, dAdd, dMul, dEq, dNe, dIsN, dNotN, isNon_non, isNon_bl, isNon_int, isNon_str, isNon_tup, isNon_lst, isNon_fr, deq_non_non, deq_non_bl, deq_non_int, deq_non_str, deq_non_tup, deq_non_lst, deq_bl_non, deq_bl_bl, deq_bl_str, deq_bl_tup, deq_bl_lst, deq_int_non, deq_int_int, deq_int_str, deq_int_tup, deq_int_lst, deq_str_non, deq_str_bl, deq_str_int, deq_str_str, deq_str_tup, deq_str_lst, deq_tup_non, deq_tup_bl, deq_tup_int, deq_tup_str, deq_tup_tup, deq_tup_lst, deq_lst_non, deq_lst_bl, deq_lst_int, deq_lst_str, deq_lst_tup, deq_lst_lst, deqs_nil, deqs_cons, deqs_nil_cons, deqs_cons_nil, deq_fr_non, deq_non_fr, plain_non, plain_bl, plain_int, plain_lit, plains_nil, plains_cons, plain_lst20, plain_tup20, plain_lst19, plain_tup19, plain_tup18, plain_fr19, plain_fr18, deqs_frs, plains_frs19, decide_true, decide_false, ix0, ix1, deq_fr, plain_fr20, fr_def, fr_neg, fr_neg', okStr_lit, beq_lit, bAbs, bMax2, bMin2, bInt, bGcd, bList, bTuple, ofString_inj, c, fld_rows, bLen, List.length_map]
    simpa using q
  · obtain ⟨p, hp⟩ : ∃ p, rows[plc rows a]? = some p := ⟨_, List.getElem?_eq_getElem (by omega)⟩
    rw [hp] at q
    have e : ¬ ((plc rows a : Nat) : Int) = ((rows.length : Nat) : Int) := by omega
    have s1 := (G.sz p (List.mem_of_getElem? hp)).mono (show 300 ≤ 1900 by omega)
    simp only [wSeq, wNext, wSet, wSetO, wAsg, wFrz, wRet, wRetN, wDrop, wIfS, wNever, wVar, wOwn, wC, wBin, wUn, wNil, wCons, wTup, wLst, wCall, dBool, wAndV, wOrV, wNotV, wIf, wChain, wTest, wAnd, wOr, wNot, wBind, bindT, setAll, wPar, wAug, wMut, wMutSet, wPut, mAppend, mExtend, wItems, wFor, wBreak, wCont, wWhile, wLc, wipeE, wSlice, wNoP, wP, startE, AEnds.law, AEnds.fn, wSetF, wFld, startI, AEnds.ini, wDict, dGet, kLook, keyD, wRng1, wRng2, wRngDown, wZip, wEnum, wRev, wPar3O, wListZip, wSliceT, wLenSet, wLm, mInsert, List.getElem?_cons_zero, List.getElem?_cons_succ, List.set_cons_zero, List.set_cons_succ, List.map_cons, List.map_nil, List.cons_append, List.nil_append, List.length_cons, List.length_nil, List.replicate, Option.some.injEq, Slot.val.injEq, Slot.own.injEq, D.lst.injEq, exists_eq_left', exists_eq_left, exists_eq', true_and, and_true, Nat.reduceAdd, Nat.reduceSub, Nat.reduceLeDiff, Bool.false_eq_true, if_true, if_false, ↓reduceIte, Int.reduceMul, Int.reduceAdd, Int.reduceSub, Int.reduceNeg, Int.reduceLT, Int.reduceLE, Int.reduceEq, Nat.reduceMul, Nat.reduceLT, String.reduceEq, String.reduceNe, Int.reduceToNat, reduceCtorEq, Bool.not_true, Bool.not_false, Bool.true_or, Bool.or_true, Bool.false_or, Bool.or_false, Bool.true_and, Bool.and_true, Bool.false_and, Bool.and_false, Bool.not_eq_true', decide_eq_true_eq, decide_eq_false_iff_not, not_true_eq_false, not_false_eq_true, dIn, dNotIn, flatD, List.all_cons, List.all_nil, List.any_cons, List.any_nil, dInt2, dSub, dFdiv, dMod, dLt, dLe, dGt, dGe, dPow, dNeg, dAdd, dMul, dEq, dNe, dIsN, dNotN, isNon_non, isNon_bl, isNon_int, isNon_str, isNon_tup, isNon_lst, isNon_fr, deq_non_non, deq_non_bl, deq_non_int, deq_non_str, deq_non_tup, deq_non_lst, deq_bl_non, deq_bl_bl, deq_bl_str, deq_bl_tup, deq_bl_lst, deq_int_non, deq_int_int, deq_int_str, deq_int_tup, deq_int_lst, deq_str_non, deq_str_bl, deq_str_int, deq_str_str, deq_str_tup, deq_str_lst, deq_tup_non, deq_tup_bl, deq_tup_int, deq_tup_str, deq_tup_tup, deq_tup_lst, deq_lst_non, deq_lst_bl, deq_lst_int, deq_lst_str, deq_lst_tup, deq_lst_lst, deqs_nil, deqs_cons, deqs_nil_cons, deqs_cons_nil, deq_fr_non, deq_non_fr, plain_non, plain_bl, plain_int, plain_lit, plains_nil, plains_cons, plain_lst20, plain_tup20, plain_lst19, plain_tup19, plain_tup18, plain_fr19, plain_fr18, deqs_frs, plains_frs19, decide_true, decide_false, ix0, ix1, deq_fr, plain_fr20, fr_def, fr_neg, fr_neg', okStr_lit, beq_lit, bAbs, bMax2, bMin2, bInt, bGcd, bList, bTuple, ofString_inj, bLen, List.length_map, e, fld_rows, ix_grT (p := p) _ (show (0 : Int) ≤ ((plc rows a : Nat) : Int) by omega) (by simpa using hp), gr1, cl_minus, s1, ha2]
    exact q
def φ_Grades_moved : Fn := fun ds Q => ∃ (rows : Rws) (last : Str) (j : Nat) (p : Str × Rat) (c : Rat), ds = [grs rows last, .str p.1, fr c] ∧ Gr rows last ∧ rows[j]? = some p ∧ Sz 300 c ∧ Gr (rows.set j (p.1, p.2 - (0 - c))) last ∧ Q (grs (rows.set j (p.1, p.2 - (0 - c))) last)
theorem len_Grades_moved (ds : List D) (Q : D → Prop) (h : φ_Grades_moved ds Q) : ds.length = 3 := by obtain ⟨_, _, _, _, _, rfl, _⟩ := h; rfl
theorem ci_Grades_moved {rows : Rws} {last : Str} (j : Nat) {p : Str × Rat} {c : Rat} {Q : D → Prop} (G : Gr rows last) (hp : rows[j]? = some p) (hc : Sz 300 c) (G2 : Gr (rows.set j (p.1, p.2 - (0 - c))) last) (q : Q (grs (rows.set j (p.1, p.2 - (0 - c))) last)) : φ_Grades_moved [grs rows last, .str p.1, fr c] Q := ⟨rows, last, j, p, c, rfl, G, hp, hc, G2, q⟩
/-- Grades.moved(self, grade, change): slots 0=self 1=grade 2=change 3=place 4=rows -/
def F_Grades_moved : FS :=
  (wSeq (wSet 3 (wMeth "Grades" "place" φ_Grades_place (wVar 0) (wCons (wVar 1) wNil)))
    (wSeq (wIfS (wTest (wBin dEq (wVar 3) (wCall bLen (wCons (wFld (wVar 0) "Grades" "rows") wNil))))
      wNever
      wNext)
    (wSeq (wSetO 4 (wCall bList (wCons (wFld (wVar 0) "Grades" "rows") wNil)))
    (wSeq (wPut 4 (wVar 3) (wTup (wCons (wBin dIx (wBin dIx (wOwn 4) (wVar 3)) (wC (.int 0))) (wCons (wCall φ_minus (wCons (wBin dIx (wBin dIx (wOwn 4) (wVar 3)) (wC (.int 1))) (wCons (wCall φ_minus (wCons (wC c_ZERO) (wCons (wVar 2) wNil))) wNil))) wNil))))
    (wRet (wCall φ_Grades_init (wCons (wCall bTuple (wCons (wOwn 4) wNil)) (wCons (wFld (wVar 0) "Grades" "last") wNil))))))))

theorem r_Grades_moved (ds : List D) (Q : D → Prop) (h : φ_Grades_moved ds Q) : F_Grades_moved (AEnds.fn Q) (startE 5 ds) := by
  obtain ⟨rows, last, j, p, c, rfl, G, hp, hc, G2, q⟩ := h
  have few := G.few
  have hj : j < rows.length := (List.getElem?_eq_some_iff.mp hp).1
  have hn : (nms rows last)[j]? = some p.1 := by
    unfold nms
    rw [List.getElem?_append_left (by simpa using hj), List.getElem?_map, hp]; rfl
  have s1 := (G.sz p (List.mem_of_getElem? hp)).mono (show 300 ≤ 1900 by omega)
  have s2 := hc.mono (show 300 ≤ 1900 by omega)
  have s3 : Sz 1900 (0 - c) := ((Sz.zero (n := 1) (by omega)).sub hc).mono (by omega)
  have z0 : Sz 1900 (0 : Rat) := Sz.zero (by omega)
  simp only [F_Grades_moved, wSeq, wSet, wMeth, wCons, wNil, wVar, startE, List.getElem?_cons_zero, List.getElem?_cons_succ, List.set_cons_zero, List.set_cons_succ, List.map_cons, List.map_nil, List.cons_append, List.nil_append, List.length_cons, List.length_nil, List.replicate, Option.some.injEq, Slot.val.injEq, Slot.own.injEq, D.lst.injEq, exists_eq_left', exists_eq_left, exists_eq', true_and, and_true, Nat.reduceAdd, Nat.reduceSub, Nat.reduceLeDiff, Bool.false_eq_true, if_true, if_false, ↓reduceIte, Int.reduceMul, Int.reduceAdd, Int.reduceSub, Int.reduceNeg, Int.reduceLT, Int.reduceLE, Int.reduceEq, Nat.reduceMul, Nat.reduceLT, String.reduceEq, String.reduceNe, Int.reduceToNat, reduceCtorEq, Bool.not_true, Bool.not_false, Bool.true_or, Bool.or_true, Bool.false_or, Bool.or_false, Bool.true_and, Bool.and_true, Bool.false_and, Bool.and_false, Bool.not_eq_true', decide_eq_true_eq, decide_eq_false_iff_not, not_true_eq_false, not_false_eq_true, okM_place]
  refine ci_Grades_place G hn ?_
  have e : ¬ ((j : Nat) : Int) = ((rows.length : Nat) : Int) := by omega
  have ei : ixD rows.length ((j : Nat) : Int) = some j := by unfold ixD; rw [if_pos (by omega), if_pos (by omega)]; simp
  have es : (rows.map gr).set j (.tup [.str p.1, fr (p.2 - (0 - c))]) = (rows.set j (p.1, p.2 - (0 - c))).map gr := by rw [List.map_set]; rfl
  simp only [wSeq, wNext, wSet, wSetO, wAsg, wFrz, wRet, wRetN, wDrop, wIfS, wNever, wVar, wOwn, wC, wBin, wUn, wNil, wCons, wTup, wLst, wCall, dBool, wAndV, wOrV, wNotV, wIf, wChain, wTest, wAnd, wOr, wNot, wBind, bindT, setAll, wPar, wAug, wMut, wMutSet, wPut, mAppend, mExtend, wItems, wFor, wBreak, wCont, wWhile, wLc, wipeE, wSlice, wNoP, wP, startE, AEnds.law, AEnds.fn, wSetF, wFld, startI, AEnds.ini, wDict, dGet, kLook, keyD, wRng1, wRng2, wRngDown, wZip, wEnum, wRev, wPar3O, wListZip, wSliceT, wLenSet, wLm, mInsert, List.getElem?_cons_zero, List.getElem?_cons_succ, List.set_cons_zero, List.set_cons_succ, List.map_cons, List.map_nil, List.cons_append, List.nil_append, List.length_cons, List.length_nil, List.replicate, Option.some.injEq, Slot.val.injEq, Slot.own.injEq, D.lst.injEq, exists_eq_left', exists_eq_left, exists_eq', true_and, and_true, Nat.reduceAdd, Nat.reduceSub, Nat.reduceLeDiff, Bool.false_eq_true, if_true, if_false, ↓reduceIte, Int.reduceMul, Int.reduceAdd, Int.reduceSub, Int.reduceNeg, Int.reduceLT, Int.reduceLE, Int.reduceEq, Nat.reduceMul, Nat.reduceLT, String.reduceEq, String.reduceNe, Int.reduceToNat, reduceCtorEq, Bool.not_true, Bool.not_false, Bool.true_or, Bool.or_true, Bool.false_or, Bool.or_false, Bool.true_and, Bool.and_true, Bool.false_and, Bool.and_false, Bool.not_eq_true', decide_eq_true_eq, decide_eq_false_iff_not, not_true_eq_false, not_false_eq_true, dIn, dNotIn, flatD, List.all_cons, List.all_nil, List.any_cons, List.any_nil, dInt2, dSub, dFdiv, dMod, dLt, dLe, dGt, dGe, dPow, dNeg, dAdd, dMul, dEq, dNe, dIsN, dNotN, isNon_non, isNon_bl, isNon_int, isNon_str, isNon_tup, isNon_lst, isNon_fr, deq_non_non, deq_non_bl, deq_non_int, deq_non_str, deq_non_tup, deq_non_lst, deq_bl_non, deq_bl_bl, deq_bl_str, deq_bl_tup, deq_bl_lst, deq_int_non, deq_int_int, deq_int_str, deq_int_tup, deq_int_lst, deq_str_non, deq_str_bl, deq_str_int, deq_str_str, deq_str_tup, deq_str_lst, deq_tup_non, deq_tup_bl, deq_tup_int, deq_tup_str, deq_tup_tup, deq_tup_lst, deq_lst_non, deq_lst_bl, deq_lst_int, deq_lst_str, deq_lst_tup, deq_lst_lst, deqs_nil, deqs_cons, deqs_nil_cons, deqs_cons_nil, deq_fr_non, deq_non_fr, plain_non, plain_bl, plain_int, plain_lit, plains_nil, plains_cons, plain_lst20, plain_tup20, plain_lst19, plain_tup19, plain_tup18, plain_fr19, plain_fr18, deqs_frs, plains_frs19, decide_true, decide_false, ix0, ix1, deq_fr, plain_fr20, fr_def, fr_neg, fr_neg', okStr_lit, beq_lit, bAbs, bMax2, bMin2, bInt, bGcd, bList, bTuple, ofString_inj, bLen, bList, bTuple, List.length_map, e, fld_rows, fld_last, ix_grL (p := p) _ (show (0 : Int) ≤ ((j : Nat) : Int) by omega) (by simpa using hp), gr0, gr1, c_ZERO_eq, cl_minus, s1, s2, s3, z0, ei, es, cl_Grades_init, G2]
  exact q
def regr (r1 r2 : Rws) (l1 l2 : Str) (ms : List Rat) : List Nat := (List.range ms.length).filter fun i => match ms[i]? with
  | some a => !decide (gdR r1 l1 a = gdR r2 l2 a)
  | none => false
def φ_regraded : Fn := fun ds Q => ∃ (r1 r2 : Rws) (l1 l2 : Str) (ms : List Rat), ds = [grs r1 l1, grs r2 l2, .lst (ms.map fr)] ∧ (Gr r1 l1 ∧ Gr r2 l2) ∧ ms.length ≤ 1000 ∧ (∀ a ∈ ms, Sz 1900 a) ∧ Q (.lst ((regr r1 r2 l1 l2 ms).map natD))
theorem len_regraded (ds : List D) (Q : D → Prop) (h : φ_regraded ds Q) : ds.length = 3 := by obtain ⟨_, _, _, _, _, rfl, _⟩ := h; rfl
theorem ci_regraded {r1 r2 : Rws} {l1 l2 : Str} {ms : List Rat} {Q : D → Prop} (G1 : Gr r1 l1) (G2 : Gr r2 l2) (hl : ms.length ≤ 1000) (hs : ∀ a ∈ ms, Sz 1900 a) (q : Q (.lst ((regr r1 r2 l1 l2 ms).map natD))) : φ_regraded [grs r1 l1, grs r2 l2, .lst (ms.map fr)] Q := ⟨r1, r2, l1, l2, ms, rfl, ⟨G1, G2⟩, hl, hs, q⟩
/-- regraded(grades, others, marks): slots 0=grades 1=others 2=marks 3=mark 4=place -/
def F_regraded : FS :=
  (wRet (wLc (wEnum (wCons (wVar 2) wNil)) (.tup [4, 3]) (wTest (wBin dNe (wMeth "Grades" "grade" φ_Grades_grade (wVar 0) (wCons (wVar 3) wNil)) (wMeth "Grades" "grade" φ_Grades_grade (wVar 1) (wCons (wVar 3) wNil)))) (wVar 4) [4, 3]))

theorem gd_mem (rows : Rws) (last : Str) (a : Rat) : gdR rows last a ∈ nms rows last := List.mem_of_getElem? (plc_name rows last a)
theorem r_regraded (ds : List D) (Q : D → Prop) (h : φ_regraded ds Q) : F_regraded (AEnds.fn Q) (startE 5 ds) := by
  obtain ⟨r1, r2, l1, l2, ms, rfl, ⟨G1, G2⟩, hl, hs, q⟩ := h
  have pl1 : ∀ a, plain 20 (.str (gdR r1 l1 a)) = true := fun a => G1.ok _ (gd_mem r1 l1 a)
  have pl2 : ∀ a, plain 20 (.str (gdR r2 l2 a)) = true := fun a => G2.ok _ (gd_mem r2 l2 a)
  have en : enumD (ms.map fr) = (List.range ms.length).map fun i => D.tup [natD i, fr (ms.getD i 0)] := by
    unfold enumD
    refine List.ext_getElem (by simp) fun i h1 h2 => ?_
    have hi : i < ms.length := by simpa using h1
    simp [hi, natD]
  simp only [F_regraded, wRet, wLc, wEnum, wCons, wNil, wVar, wipeE, startE, AEnds.fn, List.getElem?_cons_zero, List.getElem?_cons_succ, List.set_cons_zero, List.set_cons_succ, List.map_cons, List.map_nil, List.cons_append, List.nil_append, List.length_cons, List.length_nil, List.replicate, Option.some.injEq, Slot.val.injEq, Slot.own.injEq, D.lst.injEq, exists_eq_left', exists_eq_left, exists_eq', true_and, and_true, Nat.reduceAdd, Nat.reduceSub, Nat.reduceLeDiff, Bool.false_eq_true, if_true, if_false, ↓reduceIte, Int.reduceMul, Int.reduceAdd, Int.reduceSub, Int.reduceNeg, Int.reduceLT, Int.reduceLE, Int.reduceEq, Nat.reduceMul, Nat.reduceLT, String.reduceEq, String.reduceNe, Int.reduceToNat, reduceCtorEq, Bool.not_true, Bool.not_false, Bool.true_or, Bool.or_true, Bool.false_or, Bool.or_false, Bool.true_and, Bool.and_true, Bool.false_and, Bool.and_false, Bool.not_eq_true', decide_eq_true_eq, decide_eq_false_iff_not, not_true_eq_false, not_false_eq_true, en]
  refine comp_filter (k := fun i => D.tup [natD i, fr (ms.getD i 0)]) (g := natD) (p := fun i => match ms[i]? with
    | some a => !decide (gdR r1 l1 a = gdR r2 l2 a)
    | none => false) (List.range ms.length) [] _ (by simp; omega) (fun i hi P pp => ?_) (fun i hi _ P pp e he => ?_) ?_
  · have hi' := List.mem_range.mp hi
    have e1 : ms[i]? = some ms[i] := List.getElem?_eq_getElem hi'
    have e2 : ms.getD i 0 = ms[i] := by simp [hi']
    have sa := hs ms[i] (List.getElem_mem hi')
    rw [e1] at pp
    simp only [wSeq, wNext, wSet, wSetO, wAsg, wFrz, wRet, wRetN, wDrop, wIfS, wNever, wVar, wOwn, wC, wBin, wUn, wNil, wCons, wTup, wLst, wCall, dBool, wAndV, wOrV, wNotV, wIf, wChain, wTest, wAnd, wOr, wNot, wBind, bindT, setAll, wPar, wAug, wMut, wMutSet, wPut, mAppend, mExtend, wItems, wFor, wBreak, wCont, wWhile, wLc, wipeE, wSlice, wNoP, wP, startE, AEnds.law, AEnds.fn, wSetF, wFld, startI, AEnds.ini, wDict, dGet, kLook, keyD, wRng1, wRng2, wRngDown, wZip, wEnum, wRev, wPar3O, wListZip, wSliceT, wLenSet, wLm, mInsert, wMeth, List.getElem?_cons_zero, List.getElem?_cons_succ, List.set_cons_zero, List.set_cons_succ, List.map_cons, List.map_nil, List.cons_append, List.nil_append, List.length_cons, List.length_nil, List.replicate, Option.some.injEq, Slot.val.injEq, Slot.own.injEq, D.lst.injEq, exists_eq_left', exists_eq_left, exists_eq', true_and, and_true, Nat.reduceAdd, Nat.reduceSub, Nat.reduceLeDiff, Bool.false_eq_true, if_true, if_false, ↓reduceIte, Int.reduceMul, Int.reduceAdd, Int.reduceSub, Int.reduceNeg, Int.reduceLT, Int.reduceLE, Int.reduceEq, Nat.reduceMul, Nat.reduceLT, String.reduceEq, String.reduceNe, Int.reduceToNat, reduceCtorEq, Bool.not_true, Bool.not_false, Bool.true_or, Bool.or_true, Bool.false_or, Bool.or_false, Bool.true_and, Bool.and_true, Bool.false_and, Bool.and_false, Bool.not_eq_true', decide_eq_true_eq, decide_eq_false_iff_not, not_true_eq_false, not_false_eq_true, okM_grade, cl_Grades_grade, G1, G2, e2, sa, dNe, pl1, pl2, deq_str] at pp ⊢
    exact pp _ rfl
  · simp only [wSeq, wNext, wSet, wSetO, wAsg, wFrz, wRet, wRetN, wDrop, wIfS, wNever, wVar, wOwn, wC, wBin, wUn, wNil, wCons, wTup, wLst, wCall, dBool, wAndV, wOrV, wNotV, wIf, wChain, wTest, wAnd, wOr, wNot, wBind, bindT, setAll, wPar, wAug, wMut, wMutSet, wPut, mAppend, mExtend, wItems, wFor, wBreak, wCont, wWhile, wLc, wipeE, wSlice, wNoP, wP, startE, AEnds.law, AEnds.fn, wSetF, wFld, startI, AEnds.ini, wDict, dGet, kLook, keyD, wRng1, wRng2, wRngDown, wZip, wEnum, wRev, wPar3O, wListZip, wSliceT, wLenSet, wLm, mInsert, List.getElem?_cons_zero, List.getElem?_cons_succ, List.set_cons_zero, List.set_cons_succ, List.map_cons, List.map_nil, List.cons_append, List.nil_append, List.length_cons, List.length_nil, List.replicate, Option.some.injEq, Slot.val.injEq, Slot.own.injEq, D.lst.injEq, exists_eq_left', exists_eq_left, exists_eq', true_and, and_true, Nat.reduceAdd, Nat.reduceSub, Nat.reduceLeDiff, Bool.false_eq_true, if_true, if_false, ↓reduceIte, Int.reduceMul, Int.reduceAdd, Int.reduceSub, Int.reduceNeg, Int.reduceLT, Int.reduceLE, Int.reduceEq, Nat.reduceMul, Nat.reduceLT, String.reduceEq, String.reduceNe, Int.reduceToNat, reduceCtorEq, Bool.not_true, Bool.not_false, Bool.true_or, Bool.or_true, Bool.false_or, Bool.or_false, Bool.true_and, Bool.and_true, Bool.false_and, Bool.and_false, Bool.not_eq_true', decide_eq_true_eq, decide_eq_false_iff_not, not_true_eq_false, not_false_eq_true] at he ⊢
    subst he
    simp only [List.getElem?_cons_zero, List.getElem?_cons_succ, List.set_cons_zero, List.set_cons_succ, List.map_cons, List.map_nil, List.cons_append, List.nil_append, List.length_cons, List.length_nil, List.replicate, Option.some.injEq, Slot.val.injEq, Slot.own.injEq, D.lst.injEq, exists_eq_left', exists_eq_left, exists_eq', true_and, and_true, Nat.reduceAdd, Nat.reduceSub, Nat.reduceLeDiff, Bool.false_eq_true, if_true, if_false, ↓reduceIte, Int.reduceMul, Int.reduceAdd, Int.reduceSub, Int.reduceNeg, Int.reduceLT, Int.reduceLE, Int.reduceEq, Nat.reduceMul, Nat.reduceLT, String.reduceEq, String.reduceNe, Int.reduceToNat, reduceCtorEq, Bool.not_true, Bool.not_false, Bool.true_or, Bool.or_true, Bool.false_or, Bool.or_false, Bool.true_and, Bool.and_true, Bool.false_and, Bool.and_false, Bool.not_eq_true', decide_eq_true_eq, decide_eq_false_iff_not, not_true_eq_false, not_false_eq_true]
    exact pp
  · exact q
def notBl : D → Bool
  | .bl _ => false
  | _ => true
def φ_l_is : Fn := fun ds Q => ∃ x y : D, ds = [x, y] ∧ plain 20 x = true ∧ plain 20 y = true ∧ notBl y = true ∧ Q (.bl (deq x y))
theorem len_l_is (ds : List D) (Q : D → Prop) (h : φ_l_is ds Q) : ds.length = 2 := by obtain ⟨_, _, rfl, _⟩ := h; rfl
theorem cl_l_is (x y : D) (Q : D → Prop) : φ_l_is [x, y] Q = (plain 20 x = true ∧ plain 20 y = true ∧ notBl y = true ∧ Q (.bl (deq x y))) := propext ⟨fun ⟨t', b', e, h⟩ => by simp only [List.cons.injEq, and_true] at e; obtain ⟨rfl, rfl⟩ := e; exact h, fun h => ⟨x, y, rfl, h⟩⟩
theorem notBl_fr (a : Rat) : notBl (fr a) = true := rfl
theorem notBl_lst (a : List D) : notBl (.lst a) = true := rfl
theorem notBl_tup (a : List D) : notBl (.tup a) = true := rfl
theorem isNon_deq : ∀ x, isNon x = deq x .non
  | .non => by simp [isNon, deq]
  | .bl _ => by simp [isNon, deq]
  | .int _ => by simp [isNon, deq]
  | .str _ => by simp [isNon, deq]
  | .tup _ => by simp [isNon, deq]
  | .lst _ => by simp [isNon, deq]
  | .dk _ _ => by simp [isNon, deq]
  | .dt _ _ => by simp [isNon, deq]
  | .obj _ _ _ => by simp [isNon, deq]
  | .tape => by simp [isNon, deq]
/-- _law_is(told, due): slots 0=told 1=due -/
def F_l_is : FS :=
  (wSeq (wIfS (wTest (wBin dIsN (wVar 1) (wC .non)))
      (wRet (wBin dIsN (wVar 0) (wC .non)))
      wNext)
    (wSeq (wIfS (wTest (wIsi "bool" (wVar 1)))
      (wRet (wAndV (wIsi "bool" (wVar 0)) (wBin dEq (wVar 0) (wVar 1))))
      wNext)
    (wSeq (wIfS (wTest (wIsi "int" (wVar 1)))
      (wRet (wAndV (wIsi "int" (wVar 0)) (wBin dEq (wVar 0) (wVar 1))))
      wNext)
    (wSeq (wIfS (wTest (wIsi "str" (wVar 1)))
      (wRet (wAndV (wIsi "str" (wVar 0)) (wBin dEq (wVar 0) (wVar 1))))
      wNext)
    (wSeq (wIfS (wTest (wIsi "tuple" (wVar 1)))
      (wRet (wAndV (wIsi "tuple" (wVar 0)) (wBin dEq (wVar 0) (wVar 1))))
      wNext)
    (wRet (wAndV (wIsi "list" (wVar 0)) (wBin dEq (wVar 0) (wVar 1)))))))))

theorem r_l_is (ds : List D) (Q : D → Prop) (h : φ_l_is ds Q) : F_l_is (AEnds.fn Q) (startE 2 ds) := by
  obtain ⟨x, y, rfl, px, py, nb, q⟩ := h
  cases y with
  | non =>
    simp only [F_l_is, wSeq, wNext, wSet, wSetO, wAsg, wFrz, wRet, wRetN, wDrop, wIfS, wNever, wVar, wOwn, wC, wBin, wUn, wNil, wCons, wTup, wLst, wCall, dBool, wAndV, wOrV, wNotV, wIf, wChain, wTest, wAnd, wOr, wNot, wBind, bindT, setAll, wPar, wAug, wMut, wMutSet, wPut, mAppend, mExtend, wItems, wFor, wBreak, wCont, wWhile, wLc, wipeE, wSlice, wNoP, wP, startE, AEnds.law, AEnds.fn, wSetF, wFld, startI, AEnds.ini, wDict, dGet, kLook, keyD, wRng1, wRng2, wRngDown, wZip, wEnum, wRev, wPar3O, wListZip, wSliceT, wLenSet, wLm, mInsert, List.getElem?_cons_zero, List.getElem?_cons_succ, List.set_cons_zero, List.set_cons_succ, List.map_cons, List.map_nil, List.cons_append, List.nil_append, List.length_cons, List.length_nil, List.replicate, Option.some.injEq, Slot.val.injEq, Slot.own.injEq, D.lst.injEq, exists_eq_left', exists_eq_left, exists_eq', true_and, and_true, Nat.reduceAdd, Nat.reduceSub, Nat.reduceLeDiff, Bool.false_eq_true, if_true, if_false, ↓reduceIte, Int.reduceMul, Int.reduceAdd, Int.reduceSub, Int.reduceNeg, Int.reduceLT, Int.reduceLE, Int.reduceEq, Nat.reduceMul, Nat.reduceLT, String.reduceEq, String.reduceNe, Int.reduceToNat, reduceCtorEq, Bool.not_true, Bool.not_false, Bool.true_or, Bool.or_true, Bool.false_or, Bool.or_false, Bool.true_and, Bool.and_true, Bool.false_and, Bool.and_false, Bool.not_eq_true', decide_eq_true_eq, decide_eq_false_iff_not, not_true_eq_false, not_false_eq_true, dIn, dNotIn, flatD, List.all_cons, List.all_nil, List.any_cons, List.any_nil, dInt2, dSub, dFdiv, dMod, dLt, dLe, dGt, dGe, dPow, dNeg, dAdd, dMul, dEq, dNe, dIsN, dNotN, isNon_non, isNon_bl, isNon_int, isNon_str, isNon_tup, isNon_lst, isNon_fr, deq_non_non, deq_non_bl, deq_non_int, deq_non_str, deq_non_tup, deq_non_lst, deq_bl_non, deq_bl_bl, deq_bl_str, deq_bl_tup, deq_bl_lst, deq_int_non, deq_int_int, deq_int_str, deq_int_tup, deq_int_lst, deq_str_non, deq_str_bl, deq_str_int, deq_str_str, deq_str_tup, deq_str_lst, deq_tup_non, deq_tup_bl, deq_tup_int, deq_tup_str, deq_tup_tup, deq_tup_lst, deq_lst_non, deq_lst_bl, deq_lst_int, deq_lst_str, deq_lst_tup, deq_lst_lst, deqs_nil, deqs_cons, deqs_nil_cons, deqs_cons_nil, deq_fr_non, deq_non_fr, plain_non, plain_bl, plain_int, plain_lit, plains_nil, plains_cons, plain_lst20, plain_tup20, plain_lst19, plain_tup19, plain_tup18, plain_fr19, plain_fr18, deqs_frs, plains_frs19, decide_true, decide_false, ix0, ix1, deq_fr, plain_fr20, fr_def, fr_neg, fr_neg', okStr_lit, beq_lit, bLen, bAbs, bMax2, bMin2, bInt, bGcd, bList, bTuple, ofString_inj, cl_l_draw, cl_less, cl_Grades_init, cl_Grades_names, cl_Grades_grade, cl_fraction, cl_minus, cl_Grades_to_next, cl_Grades_over_edge, cl_l_is, isNon_deq]
    exact q
  | bl b => cases nb
  | dk ks es => simp [plain] at py
  | dt ks es => simp [plain] at py
  | obj c ks es => simp [plain] at py
  | tape => simp [plain] at py
  | int i => cases x <;> first | (simp [plain] at px; done) | (simp only [F_l_is, wSeq, wNext, wSet, wSetO, wAsg, wFrz, wRet, wRetN, wDrop, wIfS, wNever, wVar, wOwn, wC, wBin, wUn, wNil, wCons, wTup, wLst, wCall, dBool, wAndV, wOrV, wNotV, wIf, wChain, wTest, wAnd, wOr, wNot, wBind, bindT, setAll, wPar, wAug, wMut, wMutSet, wPut, mAppend, mExtend, wItems, wFor, wBreak, wCont, wWhile, wLc, wipeE, wSlice, wNoP, wP, startE, AEnds.law, AEnds.fn, wSetF, wFld, startI, AEnds.ini, wDict, dGet, kLook, keyD, wRng1, wRng2, wRngDown, wZip, wEnum, wRev, wPar3O, wListZip, wSliceT, wLenSet, wLm, mInsert, List.getElem?_cons_zero, List.getElem?_cons_succ, List.set_cons_zero, List.set_cons_succ, List.map_cons, List.map_nil, List.cons_append, List.nil_append, List.length_cons, List.length_nil, List.replicate, Option.some.injEq, Slot.val.injEq, Slot.own.injEq, D.lst.injEq, exists_eq_left', exists_eq_left, exists_eq', true_and, and_true, Nat.reduceAdd, Nat.reduceSub, Nat.reduceLeDiff, Bool.false_eq_true, if_true, if_false, ↓reduceIte, Int.reduceMul, Int.reduceAdd, Int.reduceSub, Int.reduceNeg, Int.reduceLT, Int.reduceLE, Int.reduceEq, Nat.reduceMul, Nat.reduceLT, String.reduceEq, String.reduceNe, Int.reduceToNat, reduceCtorEq, Bool.not_true, Bool.not_false, Bool.true_or, Bool.or_true, Bool.false_or, Bool.or_false, Bool.true_and, Bool.and_true, Bool.false_and, Bool.and_false, Bool.not_eq_true', decide_eq_true_eq, decide_eq_false_iff_not, not_true_eq_false, not_false_eq_true, dIn, dNotIn, flatD, List.all_cons, List.all_nil, List.any_cons, List.any_nil, dInt2, dSub, dFdiv, dMod, dLt, dLe, dGt, dGe, dPow, dNeg, dAdd, dMul, dEq, dNe, dIsN, dNotN, isNon_non, isNon_bl, isNon_int, isNon_str, isNon_tup, isNon_lst, isNon_fr, deq_non_non, deq_non_bl, deq_non_int, deq_non_str, deq_non_tup, deq_non_lst, deq_bl_non, deq_bl_bl, deq_bl_str, deq_bl_tup, deq_bl_lst, deq_int_non, deq_int_int, deq_int_str, deq_int_tup, deq_int_lst, deq_str_non, deq_str_bl, deq_str_int, deq_str_str, deq_str_tup, deq_str_lst, deq_tup_non, deq_tup_bl, deq_tup_int, deq_tup_str, deq_tup_tup, deq_tup_lst, deq_lst_non, deq_lst_bl, deq_lst_int, deq_lst_str, deq_lst_tup, deq_lst_lst, deqs_nil, deqs_cons, deqs_nil_cons, deqs_cons_nil, deq_fr_non, deq_non_fr, plain_non, plain_bl, plain_int, plain_lit, plains_nil, plains_cons, plain_lst20, plain_tup20, plain_lst19, plain_tup19, plain_tup18, plain_fr19, plain_fr18, deqs_frs, plains_frs19, decide_true, decide_false, ix0, ix1, deq_fr, plain_fr20, fr_def, fr_neg, fr_neg', okStr_lit, beq_lit, bLen, bAbs, bMax2, bMin2, bInt, bGcd, bList, bTuple, ofString_inj, cl_l_draw, cl_less, cl_Grades_init, cl_Grades_names, cl_Grades_grade, cl_fraction, cl_minus, cl_Grades_to_next, cl_Grades_over_edge, cl_l_is, wIsi, tyName, decide_true, decide_false, px, py, deq_bl_int, deq_int_bl]; simpa only [List.getElem?_cons_zero, List.getElem?_cons_succ, List.set_cons_zero, List.set_cons_succ, List.map_cons, List.map_nil, List.cons_append, List.nil_append, List.length_cons, List.length_nil, List.replicate, Option.some.injEq, Slot.val.injEq, Slot.own.injEq, D.lst.injEq, exists_eq_left', exists_eq_left, exists_eq', true_and, and_true, Nat.reduceAdd, Nat.reduceSub, Nat.reduceLeDiff, Bool.false_eq_true, if_true, if_false, ↓reduceIte, Int.reduceMul, Int.reduceAdd, Int.reduceSub, Int.reduceNeg, Int.reduceLT, Int.reduceLE, Int.reduceEq, Nat.reduceMul, Nat.reduceLT, String.reduceEq, String.reduceNe, Int.reduceToNat, reduceCtorEq, Bool.not_true, Bool.not_false, Bool.true_or, Bool.or_true, Bool.false_or, Bool.or_false, Bool.true_and, Bool.and_true, Bool.false_and, Bool.and_false, Bool.not_eq_true', decide_eq_true_eq, decide_eq_false_iff_not, not_true_eq_false, not_false_eq_true, dIn, dNotIn, flatD, List.all_cons, List.all_nil, List.any_cons, List.any_nil, dInt2, dSub, dFdiv, dMod, dLt, dLe, dGt, dGe, dPow, dNeg, dAdd, dMul, dEq, dNe, dIsN, dNotN, isNon_non, isNon_bl, isNon_int, isNon_str, isNon_tup, isNon_lst, isNon_fr, deq_non_non, deq_non_bl, deq_non_int, deq_non_str, deq_non_tup, deq_non_lst, deq_bl_non, deq_bl_bl, deq_bl_str, deq_bl_tup, deq_bl_lst, deq_int_non, deq_int_int, deq_int_str, deq_int_tup, deq_int_lst, deq_str_non, deq_str_bl, deq_str_int, deq_str_str, deq_str_tup, deq_str_lst, deq_tup_non, deq_tup_bl, deq_tup_int, deq_tup_str, deq_tup_tup, deq_tup_lst, deq_lst_non, deq_lst_bl, deq_lst_int, deq_lst_str, deq_lst_tup, deq_lst_lst, deqs_nil, deqs_cons, deqs_nil_cons, deqs_cons_nil, deq_fr_non, deq_non_fr, plain_non, plain_bl, plain_int, plain_lit, plains_nil, plains_cons, plain_lst20, plain_tup20, plain_lst19, plain_tup19, plain_tup18, plain_fr19, plain_fr18, deqs_frs, plains_frs19, decide_true, decide_false, ix0, ix1, deq_fr, plain_fr20, fr_def, fr_neg, fr_neg', okStr_lit, beq_lit, bLen, bAbs, bMax2, bMin2, bInt, bGcd, bList, bTuple, ofString_inj, deq_bl_int, deq_int_bl] using q)
  | str i => cases x <;> first | (simp [plain] at px; done) | (simp only [F_l_is, wSeq, wNext, wSet, wSetO, wAsg, wFrz, wRet, wRetN, wDrop, wIfS, wNever, wVar, wOwn, wC, wBin, wUn, wNil, wCons, wTup, wLst, wCall, dBool, wAndV, wOrV, wNotV, wIf, wChain, wTest, wAnd, wOr, wNot, wBind, bindT, setAll, wPar, wAug, wMut, wMutSet, wPut, mAppend, mExtend, wItems, wFor, wBreak, wCont, wWhile, wLc, wipeE, wSlice, wNoP, wP, startE, AEnds.law, AEnds.fn, wSetF, wFld, startI, AEnds.ini, wDict, dGet, kLook, keyD, wRng1, wRng2, wRngDown, wZip, wEnum, wRev, wPar3O, wListZip, wSliceT, wLenSet, wLm, mInsert, List.getElem?_cons_zero, List.getElem?_cons_succ, List.set_cons_zero, List.set_cons_succ, List.map_cons, List.map_nil, List.cons_append, List.nil_append, List.length_cons, List.length_nil, List.replicate, Option.some.injEq, Slot.val.injEq, Slot.own.injEq, D.lst.injEq, exists_eq_left', exists_eq_left, exists_eq', true_and, and_true, Nat.reduceAdd, Nat.reduceSub, Nat.reduceLeDiff, Bool.false_eq_true, if_true, if_false, ↓reduceIte, Int.reduceMul, Int.reduceAdd, Int.reduceSub, Int.reduceNeg, Int.reduceLT, Int.reduceLE, Int.reduceEq, Nat.reduceMul, Nat.reduceLT, String.reduceEq, String.reduceNe, Int.reduceToNat, reduceCtorEq, Bool.not_true, Bool.not_false, Bool.true_or, Bool.or_true, Bool.false_or, Bool.or_false, Bool.true_and, Bool.and_true, Bool.false_and, Bool.and_false, Bool.not_eq_true', decide_eq_true_eq, decide_eq_false_iff_not, not_true_eq_false, not_false_eq_true, dIn, dNotIn, flatD, List.all_cons, List.all_nil, List.any_cons, List.any_nil, dInt2, dSub, dFdiv, dMod, dLt, dLe, dGt, dGe, dPow, dNeg, dAdd, dMul, dEq, dNe, dIsN, dNotN, isNon_non, isNon_bl, isNon_int, isNon_str, isNon_tup, isNon_lst, isNon_fr, deq_non_non, deq_non_bl, deq_non_int, deq_non_str, deq_non_tup, deq_non_lst, deq_bl_non, deq_bl_bl, deq_bl_str, deq_bl_tup, deq_bl_lst, deq_int_non, deq_int_int, deq_int_str, deq_int_tup, deq_int_lst, deq_str_non, deq_str_bl, deq_str_int, deq_str_str, deq_str_tup, deq_str_lst, deq_tup_non, deq_tup_bl, deq_tup_int, deq_tup_str, deq_tup_tup, deq_tup_lst, deq_lst_non, deq_lst_bl, deq_lst_int, deq_lst_str, deq_lst_tup, deq_lst_lst, deqs_nil, deqs_cons, deqs_nil_cons, deqs_cons_nil, deq_fr_non, deq_non_fr, plain_non, plain_bl, plain_int, plain_lit, plains_nil, plains_cons, plain_lst20, plain_tup20, plain_lst19, plain_tup19, plain_tup18, plain_fr19, plain_fr18, deqs_frs, plains_frs19, decide_true, decide_false, ix0, ix1, deq_fr, plain_fr20, fr_def, fr_neg, fr_neg', okStr_lit, beq_lit, bLen, bAbs, bMax2, bMin2, bInt, bGcd, bList, bTuple, ofString_inj, cl_l_draw, cl_less, cl_Grades_init, cl_Grades_names, cl_Grades_grade, cl_fraction, cl_minus, cl_Grades_to_next, cl_Grades_over_edge, cl_l_is, wIsi, tyName, decide_true, decide_false, px, py, deq_bl_int, deq_int_bl]; simpa only [List.getElem?_cons_zero, List.getElem?_cons_succ, List.set_cons_zero, List.set_cons_succ, List.map_cons, List.map_nil, List.cons_append, List.nil_append, List.length_cons, List.length_nil, List.replicate, Option.some.injEq, Slot.val.injEq, Slot.own.injEq, D.lst.injEq, exists_eq_left', exists_eq_left, exists_eq', true_and, and_true, Nat.reduceAdd, Nat.reduceSub, Nat.reduceLeDiff, Bool.false_eq_true, if_true, if_false, ↓reduceIte, Int.reduceMul, Int.reduceAdd, Int.reduceSub, Int.reduceNeg, Int.reduceLT, Int.reduceLE, Int.reduceEq, Nat.reduceMul, Nat.reduceLT, String.reduceEq, String.reduceNe, Int.reduceToNat, reduceCtorEq, Bool.not_true, Bool.not_false, Bool.true_or, Bool.or_true, Bool.false_or, Bool.or_false, Bool.true_and, Bool.and_true, Bool.false_and, Bool.and_false, Bool.not_eq_true', decide_eq_true_eq, decide_eq_false_iff_not, not_true_eq_false, not_false_eq_true, dIn, dNotIn, flatD, List.all_cons, List.all_nil, List.any_cons, List.any_nil, dInt2, dSub, dFdiv, dMod, dLt, dLe, dGt, dGe, dPow, dNeg, dAdd, dMul, dEq, dNe, dIsN, dNotN, isNon_non, isNon_bl, isNon_int, isNon_str, isNon_tup, isNon_lst, isNon_fr, deq_non_non, deq_non_bl, deq_non_int, deq_non_str, deq_non_tup, deq_non_lst, deq_bl_non, deq_bl_bl, deq_bl_str, deq_bl_tup, deq_bl_lst, deq_int_non, deq_int_int, deq_int_str, deq_int_tup, deq_int_lst, deq_str_non, deq_str_bl, deq_str_int, deq_str_str, deq_str_tup, deq_str_lst, deq_tup_non, deq_tup_bl, deq_tup_int, deq_tup_str, deq_tup_tup, deq_tup_lst, deq_lst_non, deq_lst_bl, deq_lst_int, deq_lst_str, deq_lst_tup, deq_lst_lst, deqs_nil, deqs_cons, deqs_nil_cons, deqs_cons_nil, deq_fr_non, deq_non_fr, plain_non, plain_bl, plain_int, plain_lit, plains_nil, plains_cons, plain_lst20, plain_tup20, plain_lst19, plain_tup19, plain_tup18, plain_fr19, plain_fr18, deqs_frs, plains_frs19, decide_true, decide_false, ix0, ix1, deq_fr, plain_fr20, fr_def, fr_neg, fr_neg', okStr_lit, beq_lit, bLen, bAbs, bMax2, bMin2, bInt, bGcd, bList, bTuple, ofString_inj, deq_bl_int, deq_int_bl] using q)
  | tup i => cases x <;> first | (simp [plain] at px; done) | (simp only [F_l_is, wSeq, wNext, wSet, wSetO, wAsg, wFrz, wRet, wRetN, wDrop, wIfS, wNever, wVar, wOwn, wC, wBin, wUn, wNil, wCons, wTup, wLst, wCall, dBool, wAndV, wOrV, wNotV, wIf, wChain, wTest, wAnd, wOr, wNot, wBind, bindT, setAll, wPar, wAug, wMut, wMutSet, wPut, mAppend, mExtend, wItems, wFor, wBreak, wCont, wWhile, wLc, wipeE, wSlice, wNoP, wP, startE, AEnds.law, AEnds.fn, wSetF, wFld, startI, AEnds.ini, wDict, dGet, kLook, keyD, wRng1, wRng2, wRngDown, wZip, wEnum, wRev, wPar3O, wListZip, wSliceT, wLenSet, wLm, mInsert, List.getElem?_cons_zero, List.getElem?_cons_succ, List.set_cons_zero, List.set_cons_succ, List.map_cons, List.map_nil, List.cons_append, List.nil_append, List.length_cons, List.length_nil, List.replicate, Option.some.injEq, Slot.val.injEq, Slot.own.injEq, D.lst.injEq, exists_eq_left', exists_eq_left, exists_eq', true_and, and_true, Nat.reduceAdd, Nat.reduceSub, Nat.reduceLeDiff, Bool.false_eq_true, if_true, if_false, ↓reduceIte, Int.reduceMul, Int.reduceAdd, Int.reduceSub, Int.reduceNeg, Int.reduceLT, Int.reduceLE, Int.reduceEq, Nat.reduceMul, Nat.reduceLT, String.reduceEq, String.reduceNe, Int.reduceToNat, reduceCtorEq, Bool.not_true, Bool.not_false, Bool.true_or, Bool.or_true, Bool.false_or, Bool.or_false, Bool.true_and, Bool.and_true, Bool.false_and, Bool.and_false, Bool.not_eq_true', decide_eq_true_eq, decide_eq_false_iff_not, not_true_eq_false, not_false_eq_true, dIn, dNotIn, flatD, List.all_cons, List.all_nil, List.any_cons, List.any_nil, dInt2, dSub, dFdiv, dMod, dLt, dLe, dGt, dGe, dPow, dNeg, dAdd, dMul, dEq, dNe, dIsN, dNotN, isNon_non, isNon_bl, isNon_int, isNon_str, isNon_tup, isNon_lst, isNon_fr, deq_non_non, deq_non_bl, deq_non_int, deq_non_str, deq_non_tup, deq_non_lst, deq_bl_non, deq_bl_bl, deq_bl_str, deq_bl_tup, deq_bl_lst, deq_int_non, deq_int_int, deq_int_str, deq_int_tup, deq_int_lst, deq_str_non, deq_str_bl, deq_str_int, deq_str_str, deq_str_tup, deq_str_lst, deq_tup_non, deq_tup_bl, deq_tup_int, deq_tup_str, deq_tup_tup, deq_tup_lst, deq_lst_non, deq_lst_bl, deq_lst_int, deq_lst_str, deq_lst_tup, deq_lst_lst, deqs_nil, deqs_cons, deqs_nil_cons, deqs_cons_nil, deq_fr_non, deq_non_fr, plain_non, plain_bl, plain_int, plain_lit, plains_nil, plains_cons, plain_lst20, plain_tup20, plain_lst19, plain_tup19, plain_tup18, plain_fr19, plain_fr18, deqs_frs, plains_frs19, decide_true, decide_false, ix0, ix1, deq_fr, plain_fr20, fr_def, fr_neg, fr_neg', okStr_lit, beq_lit, bLen, bAbs, bMax2, bMin2, bInt, bGcd, bList, bTuple, ofString_inj, cl_l_draw, cl_less, cl_Grades_init, cl_Grades_names, cl_Grades_grade, cl_fraction, cl_minus, cl_Grades_to_next, cl_Grades_over_edge, cl_l_is, wIsi, tyName, decide_true, decide_false, px, py, deq_bl_int, deq_int_bl]; simpa only [List.getElem?_cons_zero, List.getElem?_cons_succ, List.set_cons_zero, List.set_cons_succ, List.map_cons, List.map_nil, List.cons_append, List.nil_append, List.length_cons, List.length_nil, List.replicate, Option.some.injEq, Slot.val.injEq, Slot.own.injEq, D.lst.injEq, exists_eq_left', exists_eq_left, exists_eq', true_and, and_true, Nat.reduceAdd, Nat.reduceSub, Nat.reduceLeDiff, Bool.false_eq_true, if_true, if_false, ↓reduceIte, Int.reduceMul, Int.reduceAdd, Int.reduceSub, Int.reduceNeg, Int.reduceLT, Int.reduceLE, Int.reduceEq, Nat.reduceMul, Nat.reduceLT, String.reduceEq, String.reduceNe, Int.reduceToNat, reduceCtorEq, Bool.not_true, Bool.not_false, Bool.true_or, Bool.or_true, Bool.false_or, Bool.or_false, Bool.true_and, Bool.and_true, Bool.false_and, Bool.and_false, Bool.not_eq_true', decide_eq_true_eq, decide_eq_false_iff_not, not_true_eq_false, not_false_eq_true, dIn, dNotIn, flatD, List.all_cons, List.all_nil, List.any_cons, List.any_nil, dInt2, dSub, dFdiv, dMod, dLt, dLe, dGt, dGe, dPow, dNeg, dAdd, dMul, dEq, dNe, dIsN, dNotN, isNon_non, isNon_bl, isNon_int, isNon_str, isNon_tup, isNon_lst, isNon_fr, deq_non_non, deq_non_bl, deq_non_int, deq_non_str, deq_non_tup, deq_non_lst, deq_bl_non, deq_bl_bl, deq_bl_str, deq_bl_tup, deq_bl_lst, deq_int_non, deq_int_int, deq_int_str, deq_int_tup, deq_int_lst, deq_str_non, deq_str_bl, deq_str_int, deq_str_str, deq_str_tup, deq_str_lst, deq_tup_non, deq_tup_bl, deq_tup_int, deq_tup_str, deq_tup_tup, deq_tup_lst, deq_lst_non, deq_lst_bl, deq_lst_int, deq_lst_str, deq_lst_tup, deq_lst_lst, deqs_nil, deqs_cons, deqs_nil_cons, deqs_cons_nil, deq_fr_non, deq_non_fr, plain_non, plain_bl, plain_int, plain_lit, plains_nil, plains_cons, plain_lst20, plain_tup20, plain_lst19, plain_tup19, plain_tup18, plain_fr19, plain_fr18, deqs_frs, plains_frs19, decide_true, decide_false, ix0, ix1, deq_fr, plain_fr20, fr_def, fr_neg, fr_neg', okStr_lit, beq_lit, bLen, bAbs, bMax2, bMin2, bInt, bGcd, bList, bTuple, ofString_inj, px, py] using q)
  | lst i => cases x <;> first | (simp [plain] at px; done) | (simp only [F_l_is, wSeq, wNext, wSet, wSetO, wAsg, wFrz, wRet, wRetN, wDrop, wIfS, wNever, wVar, wOwn, wC, wBin, wUn, wNil, wCons, wTup, wLst, wCall, dBool, wAndV, wOrV, wNotV, wIf, wChain, wTest, wAnd, wOr, wNot, wBind, bindT, setAll, wPar, wAug, wMut, wMutSet, wPut, mAppend, mExtend, wItems, wFor, wBreak, wCont, wWhile, wLc, wipeE, wSlice, wNoP, wP, startE, AEnds.law, AEnds.fn, wSetF, wFld, startI, AEnds.ini, wDict, dGet, kLook, keyD, wRng1, wRng2, wRngDown, wZip, wEnum, wRev, wPar3O, wListZip, wSliceT, wLenSet, wLm, mInsert, List.getElem?_cons_zero, List.getElem?_cons_succ, List.set_cons_zero, List.set_cons_succ, List.map_cons, List.map_nil, List.cons_append, List.nil_append, List.length_cons, List.length_nil, List.replicate, Option.some.injEq, Slot.val.injEq, Slot.own.injEq, D.lst.injEq, exists_eq_left', exists_eq_left, exists_eq', true_and, and_true, Nat.reduceAdd, Nat.reduceSub, Nat.reduceLeDiff, Bool.false_eq_true, if_true, if_false, ↓reduceIte, Int.reduceMul, Int.reduceAdd, Int.reduceSub, Int.reduceNeg, Int.reduceLT, Int.reduceLE, Int.reduceEq, Nat.reduceMul, Nat.reduceLT, String.reduceEq, String.reduceNe, Int.reduceToNat, reduceCtorEq, Bool.not_true, Bool.not_false, Bool.true_or, Bool.or_true, Bool.false_or, Bool.or_false, Bool.true_and, Bool.and_true, Bool.false_and, Bool.and_false, Bool.not_eq_true', decide_eq_true_eq, decide_eq_false_iff_not, not_true_eq_false, not_false_eq_true, dIn, dNotIn, flatD, List.all_cons, List.all_nil, List.any_cons, List.any_nil, dInt2, dSub, dFdiv, dMod, dLt, dLe, dGt, dGe, dPow, dNeg, dAdd, dMul, dEq, dNe, dIsN, dNotN, isNon_non, isNon_bl, isNon_int, isNon_str, isNon_tup, isNon_lst, isNon_fr, deq_non_non, deq_non_bl, deq_non_int, deq_non_str, deq_non_tup, deq_non_lst, deq_bl_non, deq_bl_bl, deq_bl_str, deq_bl_tup, deq_bl_lst, deq_int_non, deq_int_int, deq_int_str, deq_int_tup, deq_int_lst, deq_str_non, deq_str_bl, deq_str_int, deq_str_str, deq_str_tup, deq_str_lst, deq_tup_non, deq_tup_bl, deq_tup_int, deq_tup_str, deq_tup_tup, deq_tup_lst, deq_lst_non, deq_lst_bl, deq_lst_int, deq_lst_str, deq_lst_tup, deq_lst_lst, deqs_nil, deqs_cons, deqs_nil_cons, deqs_cons_nil, deq_fr_non, deq_non_fr, plain_non, plain_bl, plain_int, plain_lit, plains_nil, plains_cons, plain_lst20, plain_tup20, plain_lst19, plain_tup19, plain_tup18, plain_fr19, plain_fr18, deqs_frs, plains_frs19, decide_true, decide_false, ix0, ix1, deq_fr, plain_fr20, fr_def, fr_neg, fr_neg', okStr_lit, beq_lit, bLen, bAbs, bMax2, bMin2, bInt, bGcd, bList, bTuple, ofString_inj, cl_l_draw, cl_less, cl_Grades_init, cl_Grades_names, cl_Grades_grade, cl_fraction, cl_minus, cl_Grades_to_next, cl_Grades_over_edge, cl_l_is, wIsi, tyName, decide_true, decide_false, px, py, deq_bl_int, deq_int_bl]; simpa only [List.getElem?_cons_zero, List.getElem?_cons_succ, List.set_cons_zero, List.set_cons_succ, List.map_cons, List.map_nil, List.cons_append, List.nil_append, List.length_cons, List.length_nil, List.replicate, Option.some.injEq, Slot.val.injEq, Slot.own.injEq, D.lst.injEq, exists_eq_left', exists_eq_left, exists_eq', true_and, and_true, Nat.reduceAdd, Nat.reduceSub, Nat.reduceLeDiff, Bool.false_eq_true, if_true, if_false, ↓reduceIte, Int.reduceMul, Int.reduceAdd, Int.reduceSub, Int.reduceNeg, Int.reduceLT, Int.reduceLE, Int.reduceEq, Nat.reduceMul, Nat.reduceLT, String.reduceEq, String.reduceNe, Int.reduceToNat, reduceCtorEq, Bool.not_true, Bool.not_false, Bool.true_or, Bool.or_true, Bool.false_or, Bool.or_false, Bool.true_and, Bool.and_true, Bool.false_and, Bool.and_false, Bool.not_eq_true', decide_eq_true_eq, decide_eq_false_iff_not, not_true_eq_false, not_false_eq_true, dIn, dNotIn, flatD, List.all_cons, List.all_nil, List.any_cons, List.any_nil, dInt2, dSub, dFdiv, dMod, dLt, dLe, dGt, dGe, dPow, dNeg, dAdd, dMul, dEq, dNe, dIsN, dNotN, isNon_non, isNon_bl, isNon_int, isNon_str, isNon_tup, isNon_lst, isNon_fr, deq_non_non, deq_non_bl, deq_non_int, deq_non_str, deq_non_tup, deq_non_lst, deq_bl_non, deq_bl_bl, deq_bl_str, deq_bl_tup, deq_bl_lst, deq_int_non, deq_int_int, deq_int_str, deq_int_tup, deq_int_lst, deq_str_non, deq_str_bl, deq_str_int, deq_str_str, deq_str_tup, deq_str_lst, deq_tup_non, deq_tup_bl, deq_tup_int, deq_tup_str, deq_tup_tup, deq_tup_lst, deq_lst_non, deq_lst_bl, deq_lst_int, deq_lst_str, deq_lst_tup, deq_lst_lst, deqs_nil, deqs_cons, deqs_nil_cons, deqs_cons_nil, deq_fr_non, deq_non_fr, plain_non, plain_bl, plain_int, plain_lit, plains_nil, plains_cons, plain_lst20, plain_tup20, plain_lst19, plain_tup19, plain_tup18, plain_fr19, plain_fr18, deqs_frs, plains_frs19, decide_true, decide_false, ix0, ix1, deq_fr, plain_fr20, fr_def, fr_neg, fr_neg', okStr_lit, beq_lit, bLen, bAbs, bMax2, bMin2, bInt, bGcd, bList, bTuple, ofString_inj, px, py] using q)
def φ_l_mod : Fn := fun ds Q => ∃ a n : Int, ds = [.int a, .int n] ∧ 0 < n ∧ n.natAbs < 2 ^ 4000 ∧ a.natAbs < 2 ^ 8000 ∧ Q (.int (a % n))
theorem len_l_mod (ds : List D) (Q : D → Prop) (h : φ_l_mod ds Q) : ds.length = 2 := by obtain ⟨_, _, rfl, _⟩ := h; rfl
theorem cl_l_mod (a n : Int) (Q : D → Prop) : φ_l_mod [.int a, .int n] Q = (0 < n ∧ n.natAbs < 2 ^ 4000 ∧ a.natAbs < 2 ^ 8000 ∧ Q (.int (a % n))) := propext ⟨fun ⟨t', b', e, h⟩ => by simp only [List.cons.injEq, D.int.injEq, and_true] at e; obtain ⟨rfl, rfl⟩ := e; exact h, fun h => ⟨a, n, rfl, h⟩⟩
/-- _law_mod(a, n): slots 0=a 1=n -/
def F_l_mod : FS :=
  (wRet (wBin dSub (wVar 0) (wBin dMul (wBin dFdiv (wVar 0) (wVar 1)) (wVar 1))))

theorem r_l_mod (ds : List D) (Q : D → Prop) (h : φ_l_mod ds Q) : F_l_mod (AEnds.fn Q) (startE 2 ds) := by
  obtain ⟨a, n, rfl, h0, hn, ha, q⟩ := h
  simp only [F_l_mod, wSeq, wNext, wSet, wSetO, wAsg, wFrz, wRet, wRetN, wDrop, wIfS, wNever, wVar, wOwn, wC, wBin, wUn, wNil, wCons, wTup, wLst, wCall, dBool, wAndV, wOrV, wNotV, wIf, wChain, wTest, wAnd, wOr, wNot, wBind, bindT, setAll, wPar, wAug, wMut, wMutSet, wPut, mAppend, mExtend, wItems, wFor, wBreak, wCont, wWhile, wLc, wipeE, wSlice, wNoP, wP, startE, AEnds.law, AEnds.fn, wSetF, wFld, startI, AEnds.ini, wDict, dGet, kLook, keyD, wRng1, wRng2, wRngDown, wZip, wEnum, wRev, wPar3O, wListZip, wSliceT, wLenSet, wLm, mInsert, List.getElem?_cons_zero, List.getElem?_cons_succ, List.set_cons_zero, List.set_cons_succ, List.map_cons, List.map_nil, List.cons_append, List.nil_append, List.length_cons, List.length_nil, List.replicate, Option.some.injEq, Slot.val.injEq, Slot.own.injEq, D.lst.injEq, exists_eq_left', exists_eq_left, exists_eq', true_and, and_true, Nat.reduceAdd, Nat.reduceSub, Nat.reduceLeDiff, Bool.false_eq_true, if_true, if_false, ↓reduceIte, Int.reduceMul, Int.reduceAdd, Int.reduceSub, Int.reduceNeg, Int.reduceLT, Int.reduceLE, Int.reduceEq, Nat.reduceMul, Nat.reduceLT, String.reduceEq, String.reduceNe, Int.reduceToNat, reduceCtorEq, Bool.not_true, Bool.not_false, Bool.true_or, Bool.or_true, Bool.false_or, Bool.or_false, Bool.true_and, Bool.and_true, Bool.false_and, Bool.and_false, Bool.not_eq_true', decide_eq_true_eq, decide_eq_false_iff_not, not_true_eq_false, not_false_eq_true, dIn, dNotIn, flatD, List.all_cons, List.all_nil, List.any_cons, List.any_nil, dInt2, dSub, dFdiv, dMod, dLt, dLe, dGt, dGe, dPow, dNeg, dAdd, dMul, dEq, dNe, dIsN, dNotN, isNon_non, isNon_bl, isNon_int, isNon_str, isNon_tup, isNon_lst, isNon_fr, deq_non_non, deq_non_bl, deq_non_int, deq_non_str, deq_non_tup, deq_non_lst, deq_bl_non, deq_bl_bl, deq_bl_str, deq_bl_tup, deq_bl_lst, deq_int_non, deq_int_int, deq_int_str, deq_int_tup, deq_int_lst, deq_str_non, deq_str_bl, deq_str_int, deq_str_str, deq_str_tup, deq_str_lst, deq_tup_non, deq_tup_bl, deq_tup_int, deq_tup_str, deq_tup_tup, deq_tup_lst, deq_lst_non, deq_lst_bl, deq_lst_int, deq_lst_str, deq_lst_tup, deq_lst_lst, deqs_nil, deqs_cons, deqs_nil_cons, deqs_cons_nil, deq_fr_non, deq_non_fr, plain_non, plain_bl, plain_int, plain_lit, plains_nil, plains_cons, plain_lst20, plain_tup20, plain_lst19, plain_tup19, plain_tup18, plain_fr19, plain_fr18, deqs_frs, plains_frs19, decide_true, decide_false, ix0, ix1, deq_fr, plain_fr20, fr_def, fr_neg, fr_neg', okStr_lit, beq_lit, bLen, bAbs, bMax2, bMin2, bInt, bGcd, bList, bTuple, ofString_inj, cl_l_draw, cl_less, cl_Grades_init, cl_Grades_names, cl_Grades_grade, cl_fraction, cl_minus, cl_Grades_to_next, cl_Grades_over_edge, cl_l_is, cl_l_mod]
  have h1 : (a / n).natAbs < 2 ^ 8000 := Nat.lt_of_le_of_lt (Int.natAbs_ediv_le_natAbs _ _) ha
  refine ⟨cd_of h0 hn (by omega), cm_of h1 hn (by omega), ?_⟩
  rw [Int.emod_def, Int.mul_comm] at q
  exact q
def φ_l_gcd : Fn := fun ds Q => ∃ a b : Int, ds = [.int a, .int b] ∧ 0 ≤ a ∧ 0 ≤ b ∧ b < 2 ^ 100 ∧ a.natAbs < 2 ^ 8000 ∧ Q (.int (Nat.gcd a.natAbs b.natAbs))
theorem len_l_gcd (ds : List D) (Q : D → Prop) (h : φ_l_gcd ds Q) : ds.length = 2 := by obtain ⟨_, _, rfl, _⟩ := h; rfl
theorem cl_l_gcd (a b : Int) (Q : D → Prop) : φ_l_gcd [.int a, .int b] Q = (0 ≤ a ∧ 0 ≤ b ∧ b < 2 ^ 100 ∧ a.natAbs < 2 ^ 8000 ∧ Q (.int (Nat.gcd a.natAbs b.natAbs))) := propext ⟨fun ⟨t', b', e, h⟩ => by simp only [List.cons.injEq, D.int.injEq, and_true] at e; obtain ⟨rfl, rfl⟩ := e; exact h, fun h => ⟨a, b, rfl, h⟩⟩
/-- turns of Euclid's way: 2 k turns are enough for b below 2 ^ k -/
def euc : Nat → Nat → Nat → Nat × Nat
  | 0, a, b => (a, b)
  | n + 1, a, b => if b = 0 then euc n a b else euc n b (a % b)
theorem euc_zero (n a : Nat) : euc n a 0 = (a, 0) := by
  induction n with
  | zero => rfl
  | succ n ih => simp [euc, ih]
theorem euc_gcd : ∀ (k a b : Nat), b < 2 ^ k → (euc (2 * k) a b).1 = Nat.gcd a b
  | 0, a, b, h => by
    have : b = 0 := by omega
    subst this
    simp [euc]
  | k + 1, a, b, h => by
    show (euc (2 * k + 1 + 1) a b).1 = _
    by_cases hb : b = 0
    · subst hb; rw [euc_zero]; simp
    · unfold euc
      rw [if_neg hb]
      by_cases hc : a % b = 0
      · unfold euc
        rw [if_pos hc, hc, euc_zero, Nat.gcd_comm, Nat.gcd_rec, hc]
        simp
      · unfold euc
        rw [if_neg hc]
        have hlt : a % b < b := Nat.mod_lt _ (by omega)
        have h2 : b % (a % b) < 2 ^ k := by
          have h3 : 2 * (b % (a % b)) < b := by
            have h4 := Nat.mod_lt b (show 0 < a % b by omega)
            have h5 := Nat.div_add_mod b (a % b)
            have h6 : 1 ≤ b / (a % b) := (Nat.one_le_div_iff (by omega)).mpr (by omega)
            have h7 : a % b ≤ (a % b) * (b / (a % b)) := Nat.le_mul_of_pos_right _ h6
            omega
          rw [Nat.pow_succ] at h
          omega
        rw [euc_gcd k _ _ h2]
        rw [Nat.gcd_comm, ← Nat.gcd_rec, ← Nat.gcd_rec, Nat.gcd_comm]
/-- _law_gcd(a, b): slots 0=a 1=b 2=k -/
def F_l_gcd : FS :=
  (wSeq (wFor (.name 2) (wRng1 (wCons (wC (.int 200)) wNil))
      (wIfS (wTest (wBin dNe (wVar 1) (wC (.int 0))))
      (wPar [0, 1] (wCons (wVar 1) (wCons (wCall φ_l_mod (wCons (wVar 0) (wCons (wVar 1) wNil))) wNil)))
      wNext))
    (wRet (wVar 0)))

theorem gcd_loop (A : AEnds) : ∀ (ds : List D) (a b : Nat) (s : Slot), b < 2 ^ 4000 → a < 2 ^ 8000 → (∀ s', A.nx [.val (.int (euc ds.length a b).1), .val (.int (euc ds.length a b).2), s']) →
    wForL (.name 2) (wIfS (wTest (wBin dNe (wVar 1) (wC (.int 0)))) (wPar [0, 1] (wCons (wVar 1) (wCons (wCall φ_l_mod (wCons (wVar 0) (wCons (wVar 1) wNil))) wNil))) wNext) ds A [.val (.int a), .val (.int b), s]
  | [], a, b, s, _, _, k => k s
  | d :: ds, a, b, s, hb, ha, k => by
    show wBind (.name 2) d _ _
    simp only [wSeq, wNext, wSet, wSetO, wAsg, wFrz, wRet, wRetN, wDrop, wIfS, wNever, wVar, wOwn, wC, wBin, wUn, wNil, wCons, wTup, wLst, wCall, dBool, wAndV, wOrV, wNotV, wIf, wChain, wTest, wAnd, wOr, wNot, wBind, bindT, setAll, wPar, wAug, wMut, wMutSet, wPut, mAppend, mExtend, wItems, wFor, wBreak, wCont, wWhile, wLc, wipeE, wSlice, wNoP, wP, startE, AEnds.law, AEnds.fn, wSetF, wFld, startI, AEnds.ini, wDict, dGet, kLook, keyD, wRng1, wRng2, wRngDown, wZip, wEnum, wRev, wPar3O, wListZip, wSliceT, wLenSet, wLm, mInsert, List.getElem?_cons_zero, List.getElem?_cons_succ, List.set_cons_zero, List.set_cons_succ, List.map_cons, List.map_nil, List.cons_append, List.nil_append, List.length_cons, List.length_nil, List.replicate, Option.some.injEq, Slot.val.injEq, Slot.own.injEq, D.lst.injEq, exists_eq_left', exists_eq_left, exists_eq', true_and, and_true, Nat.reduceAdd, Nat.reduceSub, Nat.reduceLeDiff, Bool.false_eq_true, if_true, if_false, ↓reduceIte, Int.reduceMul, Int.reduceAdd, Int.reduceSub, Int.reduceNeg, Int.reduceLT, Int.reduceLE, Int.reduceEq, Nat.reduceMul, Nat.reduceLT, String.reduceEq, String.reduceNe, Int.reduceToNat, reduceCtorEq, Bool.not_true, Bool.not_false, Bool.true_or, Bool.or_true, Bool.false_or, Bool.or_false, Bool.true_and, Bool.and_true, Bool.false_and, Bool.and_false, Bool.not_eq_true', decide_eq_true_eq, decide_eq_false_iff_not, not_true_eq_false, not_false_eq_true, dIn, dNotIn, flatD, List.all_cons, List.all_nil, List.any_cons, List.any_nil, dInt2, dSub, dFdiv, dMod, dLt, dLe, dGt, dGe, dPow, dNeg, dAdd, dMul, dEq, dNe, dIsN, dNotN, isNon_non, isNon_bl, isNon_int, isNon_str, isNon_tup, isNon_lst, isNon_fr, deq_non_non, deq_non_bl, deq_non_int, deq_non_str, deq_non_tup, deq_non_lst, deq_bl_non, deq_bl_bl, deq_bl_str, deq_bl_tup, deq_bl_lst, deq_int_non, deq_int_int, deq_int_str, deq_int_tup, deq_int_lst, deq_str_non, deq_str_bl, deq_str_int, deq_str_str, deq_str_tup, deq_str_lst, deq_tup_non, deq_tup_bl, deq_tup_int, deq_tup_str, deq_tup_tup, deq_tup_lst, deq_lst_non, deq_lst_bl, deq_lst_int, deq_lst_str, deq_lst_tup, deq_lst_lst, deqs_nil, deqs_cons, deqs_nil_cons, deqs_cons_nil, deq_fr_non, deq_non_fr, plain_non, plain_bl, plain_int, plain_lit, plains_nil, plains_cons, plain_lst20, plain_tup20, plain_lst19, plain_tup19, plain_tup18, plain_fr19, plain_fr18, deqs_frs, plains_frs19, decide_true, decide_false, ix0, ix1, deq_fr, plain_fr20, fr_def, fr_neg, fr_neg', okStr_lit, beq_lit, bLen, bAbs, bMax2, bMin2, bInt, bGcd, bList, bTuple, ofString_inj, cl_l_draw, cl_less, cl_Grades_init, cl_Grades_names, cl_Grades_grade, cl_fraction, cl_minus, cl_Grades_to_next, cl_Grades_over_edge, cl_l_is, cl_l_mod, cl_l_gcd]
    split
    · rename_i c
      have c : b ≠ 0 := by simpa using c
      refine ⟨by omega, by simpa using hb, by simpa using ha, ?_⟩
      have e : ((a : Int) % (b : Int)) = ((a % b : Nat) : Int) := by simp
      rw [e]
      refine gcd_loop A ds b (a % b) _ (Nat.lt_trans (Nat.mod_lt _ (by omega)) hb) (Nat.lt_of_lt_of_le hb (pow_mono (by omega))) fun s' => ?_
      have := k s'
      rw [List.length_cons] at this
      unfold euc at this
      rw [if_neg c] at this
      exact this
    · rename_i c
      have c : b = 0 := by simpa using c
      refine gcd_loop A ds a b _ hb ha fun s' => ?_
      have := k s'
      rw [List.length_cons] at this
      unfold euc at this
      rw [if_pos c] at this
      exact this
theorem r_l_gcd (ds : List D) (Q : D → Prop) (h : φ_l_gcd ds Q) : F_l_gcd (AEnds.fn Q) (startE 3 ds) := by
  obtain ⟨a, b, rfl, a0, b0, hb, ha, q⟩ := h
  obtain ⟨a, rfl⟩ := Int.eq_ofNat_of_zero_le a0
  obtain ⟨b, rfl⟩ := Int.eq_ofNat_of_zero_le b0
  unfold F_l_gcd
  simp only [wSeq, wFor, wRng1, wC, wCons, wNil, startE, List.getElem?_cons_zero, List.getElem?_cons_succ, List.set_cons_zero, List.set_cons_succ, List.map_cons, List.map_nil, List.cons_append, List.nil_append, List.length_cons, List.length_nil, List.replicate, Option.some.injEq, Slot.val.injEq, Slot.own.injEq, D.lst.injEq, exists_eq_left', exists_eq_left, exists_eq', true_and, and_true, Nat.reduceAdd, Nat.reduceSub, Nat.reduceLeDiff, Bool.false_eq_true, if_true, if_false, ↓reduceIte, Int.reduceMul, Int.reduceAdd, Int.reduceSub, Int.reduceNeg, Int.reduceLT, Int.reduceLE, Int.reduceEq, Nat.reduceMul, Nat.reduceLT, String.reduceEq, String.reduceNe, Int.reduceToNat, reduceCtorEq, Bool.not_true, Bool.not_false, Bool.true_or, Bool.or_true, Bool.false_or, Bool.or_false, Bool.true_and, Bool.and_true, Bool.false_and, Bool.and_false, Bool.not_eq_true', decide_eq_true_eq, decide_eq_false_iff_not, not_true_eq_false, not_false_eq_true]
  refine ⟨by decide, ?_⟩
  have hb' : b < 2 ^ 100 := by omega
  refine gcd_loop _ _ a b _ (Nat.lt_of_lt_of_le hb' (pow_mono (by omega))) (by simpa using ha) fun s' => ?_
  have e : (rngD 0 200).length = 2 * 100 := by simp [rngD]
  rw [e, euc_gcd 100 a b hb']
  simp only [wSeq, wNext, wSet, wSetO, wAsg, wFrz, wRet, wRetN, wDrop, wIfS, wNever, wVar, wOwn, wC, wBin, wUn, wNil, wCons, wTup, wLst, wCall, dBool, wAndV, wOrV, wNotV, wIf, wChain, wTest, wAnd, wOr, wNot, wBind, bindT, setAll, wPar, wAug, wMut, wMutSet, wPut, mAppend, mExtend, wItems, wFor, wBreak, wCont, wWhile, wLc, wipeE, wSlice, wNoP, wP, startE, AEnds.law, AEnds.fn, wSetF, wFld, startI, AEnds.ini, wDict, dGet, kLook, keyD, wRng1, wRng2, wRngDown, wZip, wEnum, wRev, wPar3O, wListZip, wSliceT, wLenSet, wLm, mInsert, List.getElem?_cons_zero, List.getElem?_cons_succ, List.set_cons_zero, List.set_cons_succ, List.map_cons, List.map_nil, List.cons_append, List.nil_append, List.length_cons, List.length_nil, List.replicate, Option.some.injEq, Slot.val.injEq, Slot.own.injEq, D.lst.injEq, exists_eq_left', exists_eq_left, exists_eq', true_and, and_true, Nat.reduceAdd, Nat.reduceSub, Nat.reduceLeDiff, Bool.false_eq_true, if_true, if_false, ↓reduceIte, Int.reduceMul, Int.reduceAdd, Int.reduceSub, Int.reduceNeg, Int.reduceLT, Int.reduceLE, Int.reduceEq, Nat.reduceMul, Nat.reduceLT, String.reduceEq, String.reduceNe, Int.reduceToNat, reduceCtorEq, Bool.not_true, Bool.not_false, Bool.true_or, Bool.or_true, Bool.false_or, Bool.or_false, Bool.true_and, Bool.and_true, Bool.false_and, Bool.and_false, Bool.not_eq_true', decide_eq_true_eq, decide_eq_false_iff_not, not_true_eq_false, not_false_eq_true, dIn, dNotIn, flatD, List.all_cons, List.all_nil, List.any_cons, List.any_nil, dInt2, dSub, dFdiv, dMod, dLt, dLe, dGt, dGe, dPow, dNeg, dAdd, dMul, dEq, dNe, dIsN, dNotN, isNon_non, isNon_bl, isNon_int, isNon_str, isNon_tup, isNon_lst, isNon_fr, deq_non_non, deq_non_bl, deq_non_int, deq_non_str, deq_non_tup, deq_non_lst, deq_bl_non, deq_bl_bl, deq_bl_str, deq_bl_tup, deq_bl_lst, deq_int_non, deq_int_int, deq_int_str, deq_int_tup, deq_int_lst, deq_str_non, deq_str_bl, deq_str_int, deq_str_str, deq_str_tup, deq_str_lst, deq_tup_non, deq_tup_bl, deq_tup_int, deq_tup_str, deq_tup_tup, deq_tup_lst, deq_lst_non, deq_lst_bl, deq_lst_int, deq_lst_str, deq_lst_tup, deq_lst_lst, deqs_nil, deqs_cons, deqs_nil_cons, deqs_cons_nil, deq_fr_non, deq_non_fr, plain_non, plain_bl, plain_int, plain_lit, plains_nil, plains_cons, plain_lst20, plain_tup20, plain_lst19, plain_tup19, plain_tup18, plain_fr19, plain_fr18, deqs_frs, plains_frs19, decide_true, decide_false, ix0, ix1, deq_fr, plain_fr20, fr_def, fr_neg, fr_neg', okStr_lit, beq_lit, bLen, bAbs, bMax2, bMin2, bInt, bGcd, bList, bTuple, ofString_inj, cl_l_draw, cl_less, cl_Grades_init, cl_Grades_names, cl_Grades_grade, cl_fraction, cl_minus, cl_Grades_to_next, cl_Grades_over_edge, cl_l_is, cl_l_mod, cl_l_gcd]
  simpa using q
def φ_l_frac : Fn := fun ds Q => ∃ t b : Int, ds = [.int t, .int b] ∧ b ≠ 0 ∧ t.natAbs < 2 ^ 4000 ∧ b.natAbs < 2 ^ 100 ∧ Q (fr (Rat.divInt t b))
theorem len_l_frac (ds : List D) (Q : D → Prop) (h : φ_l_frac ds Q) : ds.length = 2 := by obtain ⟨_, _, rfl, _⟩ := h; rfl
theorem cl_l_frac (t b : Int) (Q : D → Prop) : φ_l_frac [.int t, .int b] Q = (b ≠ 0 ∧ t.natAbs < 2 ^ 4000 ∧ b.natAbs < 2 ^ 100 ∧ Q (fr (Rat.divInt t b))) := propext ⟨fun ⟨t', b', e, h⟩ => by simp only [List.cons.injEq, D.int.injEq, and_true] at e; obtain ⟨rfl, rfl⟩ := e; exact h, fun h => ⟨t, b, rfl, h⟩⟩
theorem divInt_parts {t b : Int} (hb : 0 < b) : fr (Rat.divInt t b) = D.tup [.int (t / (t.natAbs.gcd b.natAbs : Nat)), .int (b / (t.natAbs.gcd b.natAbs : Nat))] := by
  unfold fr
  rw [Rat.num_divInt, Rat.den_divInt, if_neg (by omega), Int.sign_eq_one_of_pos hb, Int.gcd_comm]
  have h3 : (b.natAbs : Int) = b := by omega
  rw [Int.natCast_ediv, h3]
  simp [Int.gcd]
/-- _law_frac(upper, lower): slots 0=upper 1=lower 2=common -/
def F_l_frac : FS :=
  (wSeq (wIfS (wTest (wBin dLt (wVar 1) (wC (.int 0))))
      (wPar [0, 1] (wCons (wBin dSub (wC (.int 0)) (wVar 0)) (wCons (wBin dSub (wC (.int 0)) (wVar 1)) wNil)))
      wNext)
    (wSeq (wSet 2 (wCall φ_l_gcd (wCons (wCall bAbs (wCons (wVar 0) wNil)) (wCons (wVar 1) wNil))))
    (wRet (wTup (wCons (wBin dFdiv (wVar 0) (wVar 2)) (wCons (wBin dFdiv (wVar 1) (wVar 2)) wNil))))))

theorem r_l_frac (ds : List D) (Q : D → Prop) (h : φ_l_frac ds Q) : F_l_frac (AEnds.fn Q) (startE 3 ds) := by
  obtain ⟨t, b, rfl, hb, h1, h2, q⟩ := h
  have key : ∀ (t b : Int), 0 < b → t.natAbs < 2 ^ 4000 → b.natAbs < 2 ^ 100 → Q (fr (Rat.divInt t b)) →
      (0 ≤ (t.natAbs : Int) ∧ 0 ≤ b ∧ b < 2 ^ 100 ∧ ((t.natAbs : Nat) : Int).natAbs < 2 ^ 8000 ∧ CD t (((t.natAbs : Nat) : Int).natAbs.gcd b.natAbs : Nat) ∧ CD b (((t.natAbs : Nat) : Int).natAbs.gcd b.natAbs : Nat) ∧
        Q (D.tup [.int (t / (((t.natAbs : Nat) : Int).natAbs.gcd b.natAbs : Nat)), .int (b / (((t.natAbs : Nat) : Int).natAbs.gcd b.natAbs : Nat))])) := by
    intro t b hb h1 h2 q
    have e : ((t.natAbs : Nat) : Int).natAbs = t.natAbs := by simp
    rw [e]
    have hg : (t.natAbs.gcd b.natAbs) < 2 ^ 100 := Nat.lt_of_le_of_lt (Nat.gcd_le_right _ (by omega)) h2
    have hg0 : 0 < t.natAbs.gcd b.natAbs := Nat.gcd_pos_of_pos_right _ (by omega)
    rw [divInt_parts hb] at q
    have h2' : b < 2 ^ 100 := by omega
    exact ⟨by omega, by omega, h2', Nat.lt_of_lt_of_le h1 (pow_mono (by omega)), cd_of (n := 100) (by omega) (by simpa using hg) (by omega), cd_of (n := 100) (by omega) (by simpa using hg) (by omega), q⟩
  simp only [F_l_frac, wSeq, wNext, wSet, wSetO, wAsg, wFrz, wRet, wRetN, wDrop, wIfS, wNever, wVar, wOwn, wC, wBin, wUn, wNil, wCons, wTup, wLst, wCall, dBool, wAndV, wOrV, wNotV, wIf, wChain, wTest, wAnd, wOr, wNot, wBind, bindT, setAll, wPar, wAug, wMut, wMutSet, wPut, mAppend, mExtend, wItems, wFor, wBreak, wCont, wWhile, wLc, wipeE, wSlice, wNoP, wP, startE, AEnds.law, AEnds.fn, wSetF, wFld, startI, AEnds.ini, wDict, dGet, kLook, keyD, wRng1, wRng2, wRngDown, wZip, wEnum, wRev, wPar3O, wListZip, wSliceT, wLenSet, wLm, mInsert, List.getElem?_cons_zero, List.getElem?_cons_succ, List.set_cons_zero, List.set_cons_succ, List.map_cons, List.map_nil, List.cons_append, List.nil_append, List.length_cons, List.length_nil, List.replicate, Option.some.injEq, Slot.val.injEq, Slot.own.injEq, D.lst.injEq, exists_eq_left', exists_eq_left, exists_eq', true_and, and_true, Nat.reduceAdd, Nat.reduceSub, Nat.reduceLeDiff, Bool.false_eq_true, if_true, if_false, ↓reduceIte, Int.reduceMul, Int.reduceAdd, Int.reduceSub, Int.reduceNeg, Int.reduceLT, Int.reduceLE, Int.reduceEq, Nat.reduceMul, Nat.reduceLT, String.reduceEq, String.reduceNe, Int.reduceToNat, reduceCtorEq, Bool.not_true, Bool.not_false, Bool.true_or, Bool.or_true, Bool.false_or, Bool.or_false, Bool.true_and, Bool.and_true, Bool.false_and, Bool.and_false, Bool.not_eq_true', decide_eq_true_eq, decide_eq_false_iff_not, not_true_eq_false, not_false_eq_true, dIn, dNotIn, flatD, List.all_cons, List.all_nil, List.any_cons, List.any_nil, dInt2, dSub, dFdiv, dMod, dLt, dLe, dGt, dGe, dPow, dNeg, dAdd, dMul, dEq, dNe, dIsN, dNotN, isNon_non, isNon_bl, isNon_int, isNon_str, isNon_tup, isNon_lst, isNon_fr, deq_non_non, deq_non_bl, deq_non_int, deq_non_str, deq_non_tup, deq_non_lst, deq_bl_non, deq_bl_bl, deq_bl_str, deq_bl_tup, deq_bl_lst, deq_int_non, deq_int_int, deq_int_str, deq_int_tup, deq_int_lst, deq_str_non, deq_str_bl, deq_str_int, deq_str_str, deq_str_tup, deq_str_lst, deq_tup_non, deq_tup_bl, deq_tup_int, deq_tup_str, deq_tup_tup, deq_tup_lst, deq_lst_non, deq_lst_bl, deq_lst_int, deq_lst_str, deq_lst_tup, deq_lst_lst, deqs_nil, deqs_cons, deqs_nil_cons, deqs_cons_nil, deq_fr_non, deq_non_fr, plain_non, plain_bl, plain_int, plain_lit, plains_nil, plains_cons, plain_lst20, plain_tup20, plain_lst19, plain_tup19, plain_tup18, plain_fr19, plain_fr18, deqs_frs, plains_frs19, decide_true, decide_false, ix0, ix1, deq_fr, plain_fr20, fr_def, fr_neg, fr_neg', okStr_lit, beq_lit, bLen, bAbs, bMax2, bMin2, bInt, bGcd, bList, bTuple, ofString_inj, cl_l_draw, cl_less, cl_Grades_init, cl_Grades_names, cl_Grades_grade, cl_fraction, cl_minus, cl_Grades_to_next, cl_Grades_over_edge, cl_l_is, cl_l_mod, cl_l_gcd, cl_l_frac]
  split
  · rename_i hn
    have := key (0 - t) (0 - b) (by omega) (by omega) (by omega) (by rw [Int.zero_sub, Int.zero_sub, Rat.neg_divInt_neg]; exact q)
    simpa only [List.getElem?_cons_zero, List.getElem?_cons_succ, List.set_cons_zero, List.set_cons_succ, List.map_cons, List.map_nil, List.cons_append, List.nil_append, List.length_cons, List.length_nil, List.replicate, Option.some.injEq, Slot.val.injEq, Slot.own.injEq, D.lst.injEq, exists_eq_left', exists_eq_left, exists_eq', true_and, and_true, Nat.reduceAdd, Nat.reduceSub, Nat.reduceLeDiff, Bool.false_eq_true, if_true, if_false, ↓reduceIte, Int.reduceMul, Int.reduceAdd, Int.reduceSub, Int.reduceNeg, Int.reduceLT, Int.reduceLE, Int.reduceEq, Nat.reduceMul, Nat.reduceLT, String.reduceEq, String.reduceNe, Int.reduceToNat, reduceCtorEq, Bool.not_true, Bool.not_false, Bool.true_or, Bool.or_true, Bool.false_or, Bool.or_false, Bool.true_and, Bool.and_true, Bool.false_and, Bool.and_false, Bool.not_eq_true', decide_eq_true_eq, decide_eq_false_iff_not, not_true_eq_false, not_false_eq_true] using this
  · rename_i hn
    exact key t b (by omega) h1 h2 q
def φ_l_add : Fn := fun ds Q => ∃ a b : Rat, ds = [fr a, fr b] ∧ Sz 1900 a ∧ Sz 1900 b ∧ a.den * b.den < 2 ^ 100 ∧ Q (fr (a + b))
theorem len_l_add (ds : List D) (Q : D → Prop) (h : φ_l_add ds Q) : ds.length = 2 := by obtain ⟨_, _, rfl, _⟩ := h; rfl
theorem cl_l_add (a b : Rat) (Q : D → Prop) : φ_l_add [fr a, fr b] Q = (Sz 1900 a ∧ Sz 1900 b ∧ a.den * b.den < 2 ^ 100 ∧ Q (fr (a + b))) := propext ⟨fun ⟨t', b', e, h⟩ => by simp only [List.cons.injEq, fr_inj, and_true] at e; obtain ⟨rfl, rfl⟩ := e; exact h, fun h => ⟨a, b, rfl, h⟩⟩
theorem cs_add {a b : Rat} {Q : D → Prop} (ha : Sz 40 a) (hb : Sz 40 b) : φ_l_add [fr a, fr b] Q = Q (fr (a + b)) := by
  rw [cl_l_add, eq_true (ha.mono (show 40 ≤ 1900 by omega)), eq_true (hb.mono (show 40 ≤ 1900 by omega)), eq_true (den40 ha hb), true_and, true_and, true_and]
/-- _law_add(a, b): slots 0=a 1=b -/
def F_l_add : FS :=
  (wRet (wCall φ_l_frac (wCons (wBin dAdd (wBin dMul (wBin dIx (wVar 0) (wC (.int 0))) (wBin dIx (wVar 1) (wC (.int 1)))) (wBin dMul (wBin dIx (wVar 1) (wC (.int 0))) (wBin dIx (wVar 0) (wC (.int 1))))) (wCons (wBin dMul (wBin dIx (wVar 0) (wC (.int 1))) (wBin dIx (wVar 1) (wC (.int 1)))) wNil))))

theorem r_l_add (ds : List D) (Q : D → Prop) (h : φ_l_add ds Q) : F_l_add (AEnds.fn Q) (startE 2 ds) := by
  obtain ⟨a, b, rfl, ha, hb, hd, q⟩ := h
  simp only [F_l_add, wSeq, wNext, wSet, wSetO, wAsg, wFrz, wRet, wRetN, wDrop, wIfS, wNever, wVar, wOwn, wC, wBin, wUn, wNil, wCons, wTup, wLst, wCall, dBool, wAndV, wOrV, wNotV, wIf, wChain, wTest, wAnd, wOr, wNot, wBind, bindT, setAll, wPar, wAug, wMut, wMutSet, wPut, mAppend, mExtend, wItems, wFor, wBreak, wCont, wWhile, wLc, wipeE, wSlice, wNoP, wP, startE, AEnds.law, AEnds.fn, wSetF, wFld, startI, AEnds.ini, wDict, dGet, kLook, keyD, wRng1, wRng2, wRngDown, wZip, wEnum, wRev, wPar3O, wListZip, wSliceT, wLenSet, wLm, mInsert, List.getElem?_cons_zero, List.getElem?_cons_succ, List.set_cons_zero, List.set_cons_succ, List.map_cons, List.map_nil, List.cons_append, List.nil_append, List.length_cons, List.length_nil, List.replicate, Option.some.injEq, Slot.val.injEq, Slot.own.injEq, D.lst.injEq, exists_eq_left', exists_eq_left, exists_eq', true_and, and_true, Nat.reduceAdd, Nat.reduceSub, Nat.reduceLeDiff, Bool.false_eq_true, if_true, if_false, ↓reduceIte, Int.reduceMul, Int.reduceAdd, Int.reduceSub, Int.reduceNeg, Int.reduceLT, Int.reduceLE, Int.reduceEq, Nat.reduceMul, Nat.reduceLT, String.reduceEq, String.reduceNe, Int.reduceToNat, reduceCtorEq, Bool.not_true, Bool.not_false, Bool.true_or, Bool.or_true, Bool.false_or, Bool.or_false, Bool.true_and, Bool.and_true, Bool.false_and, Bool.and_false, Bool.not_eq_true', decide_eq_true_eq, decide_eq_false_iff_not, not_true_eq_false, not_false_eq_true, dIn, dNotIn, flatD, List.all_cons, List.all_nil, List.any_cons, List.any_nil, dInt2, dSub, dFdiv, dMod, dLt, dLe, dGt, dGe, dPow, dNeg, dAdd, dMul, dEq, dNe, dIsN, dNotN, isNon_non, isNon_bl, isNon_int, isNon_str, isNon_tup, isNon_lst, isNon_fr, deq_non_non, deq_non_bl, deq_non_int, deq_non_str, deq_non_tup, deq_non_lst, deq_bl_non, deq_bl_bl, deq_bl_str, deq_bl_tup, deq_bl_lst, deq_int_non, deq_int_int, deq_int_str, deq_int_tup, deq_int_lst, deq_str_non, deq_str_bl, deq_str_int, deq_str_str, deq_str_tup, deq_str_lst, deq_tup_non, deq_tup_bl, deq_tup_int, deq_tup_str, deq_tup_tup, deq_tup_lst, deq_lst_non, deq_lst_bl, deq_lst_int, deq_lst_str, deq_lst_tup, deq_lst_lst, deqs_nil, deqs_cons, deqs_nil_cons, deqs_cons_nil, deq_fr_non, deq_non_fr, plain_non, plain_bl, plain_int, plain_lit, plains_nil, plains_cons, plain_lst20, plain_tup20, plain_lst19, plain_tup19, plain_tup18, plain_fr19, plain_fr18, deqs_frs, plains_frs19, decide_true, decide_false, ix0, ix1, deq_fr, plain_fr20, fr_def, fr_neg, fr_neg', okStr_lit, beq_lit, bLen, bAbs, bMax2, bMin2, bInt, bGcd, bList, bTuple, ofString_inj, cl_l_draw, cl_less, cl_Grades_init, cl_Grades_names, cl_Grades_grade, cl_fraction, cl_minus, cl_Grades_to_next, cl_Grades_over_edge, cl_l_is, cl_l_mod, cl_l_gcd, cl_l_frac, cl_l_add]
  have n1 := natAbs_mul_lt ha.num (den_lt hb)
  have n2 := natAbs_mul_lt hb.num (den_lt ha)
  have n4 := natAbs_mul_lt ha.num hb.num
  have pp : (2 : Nat) ^ (1900 + 1900) + 2 ^ (1900 + 1900) ≤ 2 ^ 4000 := Nat.le_trans (by rw [← Nat.two_mul, ← Nat.pow_succ']; exact Nat.le_refl _) (pow_mono (show 1900 + 1900 + 1 ≤ 4000 by omega))
  have d0 : (a.den : Int) * b.den ≠ 0 := Int.mul_ne_zero (by have := a.den_nz; omega) (by have := b.den_nz; omega)
  have d1 : ((a.den : Int) * b.den).natAbs < 2 ^ 100 := by rw [Int.natAbs_mul]; simpa using hd
  rw [add_eq_divInt] at q
  rw [Int.natCast_mul] at q
  exact ⟨cm_of (n := 1900) (m := 1900) ha.num (den_lt hb) (by omega), cm_of (n := 1900) (m := 1900) hb.num (den_lt ha) (by omega), cm_of (n := 1900) (m := 1900) (den_lt ha) (den_lt hb) (by omega), d0, by omega, d1, q⟩
def φ_l_sub : Fn := fun ds Q => ∃ a b : Rat, ds = [fr a, fr b] ∧ Sz 1900 a ∧ Sz 1900 b ∧ a.den * b.den < 2 ^ 100 ∧ Q (fr (a - b))
theorem len_l_sub (ds : List D) (Q : D → Prop) (h : φ_l_sub ds Q) : ds.length = 2 := by obtain ⟨_, _, rfl, _⟩ := h; rfl
theorem cl_l_sub (a b : Rat) (Q : D → Prop) : φ_l_sub [fr a, fr b] Q = (Sz 1900 a ∧ Sz 1900 b ∧ a.den * b.den < 2 ^ 100 ∧ Q (fr (a - b))) := propext ⟨fun ⟨t', b', e, h⟩ => by simp only [List.cons.injEq, fr_inj, and_true] at e; obtain ⟨rfl, rfl⟩ := e; exact h, fun h => ⟨a, b, rfl, h⟩⟩
theorem cs_sub {a b : Rat} {Q : D → Prop} (ha : Sz 40 a) (hb : Sz 40 b) : φ_l_sub [fr a, fr b] Q = Q (fr (a - b)) := by
  rw [cl_l_sub, eq_true (ha.mono (show 40 ≤ 1900 by omega)), eq_true (hb.mono (show 40 ≤ 1900 by omega)), eq_true (den40 ha hb), true_and, true_and, true_and]
/-- _law_sub(a, b): slots 0=a 1=b -/
def F_l_sub : FS :=
  (wRet (wCall φ_l_frac (wCons (wBin dSub (wBin dMul (wBin dIx (wVar 0) (wC (.int 0))) (wBin dIx (wVar 1) (wC (.int 1)))) (wBin dMul (wBin dIx (wVar 1) (wC (.int 0))) (wBin dIx (wVar 0) (wC (.int 1))))) (wCons (wBin dMul (wBin dIx (wVar 0) (wC (.int 1))) (wBin dIx (wVar 1) (wC (.int 1)))) wNil))))

theorem r_l_sub (ds : List D) (Q : D → Prop) (h : φ_l_sub ds Q) : F_l_sub (AEnds.fn Q) (startE 2 ds) := by
  obtain ⟨a, b, rfl, ha, hb, hd, q⟩ := h
  simp only [F_l_sub, wSeq, wNext, wSet, wSetO, wAsg, wFrz, wRet, wRetN, wDrop, wIfS, wNever, wVar, wOwn, wC, wBin, wUn, wNil, wCons, wTup, wLst, wCall, dBool, wAndV, wOrV, wNotV, wIf, wChain, wTest, wAnd, wOr, wNot, wBind, bindT, setAll, wPar, wAug, wMut, wMutSet, wPut, mAppend, mExtend, wItems, wFor, wBreak, wCont, wWhile, wLc, wipeE, wSlice, wNoP, wP, startE, AEnds.law, AEnds.fn, wSetF, wFld, startI, AEnds.ini, wDict, dGet, kLook, keyD, wRng1, wRng2, wRngDown, wZip, wEnum, wRev, wPar3O, wListZip, wSliceT, wLenSet, wLm, mInsert, List.getElem?_cons_zero, List.getElem?_cons_succ, List.set_cons_zero, List.set_cons_succ, List.map_cons, List.map_nil, List.cons_append, List.nil_append, List.length_cons, List.length_nil, List.replicate, Option.some.injEq, Slot.val.injEq, Slot.own.injEq, D.lst.injEq, exists_eq_left', exists_eq_left, exists_eq', true_and, and_true, Nat.reduceAdd, Nat.reduceSub, Nat.reduceLeDiff, Bool.false_eq_true, if_true, if_false, ↓reduceIte, Int.reduceMul, Int.reduceAdd, Int.reduceSub, Int.reduceNeg, Int.reduceLT, Int.reduceLE, Int.reduceEq, Nat.reduceMul, Nat.reduceLT, String.reduceEq, String.reduceNe, Int.reduceToNat, reduceCtorEq, Bool.not_true, Bool.not_false, Bool.true_or, Bool.or_true, Bool.false_or, Bool.or_false, Bool.true_and, Bool.and_true, Bool.false_and, Bool.and_false, Bool.not_eq_true', decide_eq_true_eq, decide_eq_false_iff_not, not_true_eq_false, not_false_eq_true, dIn, dNotIn, flatD, List.all_cons, List.all_nil, List.any_cons, List.any_nil, dInt2, dSub, dFdiv, dMod, dLt, dLe, dGt, dGe, dPow, dNeg, dAdd, dMul, dEq, dNe, dIsN, dNotN, isNon_non, isNon_bl, isNon_int, isNon_str, isNon_tup, isNon_lst, isNon_fr, deq_non_non, deq_non_bl, deq_non_int, deq_non_str, deq_non_tup, deq_non_lst, deq_bl_non, deq_bl_bl, deq_bl_str, deq_bl_tup, deq_bl_lst, deq_int_non, deq_int_int, deq_int_str, deq_int_tup, deq_int_lst, deq_str_non, deq_str_bl, deq_str_int, deq_str_str, deq_str_tup, deq_str_lst, deq_tup_non, deq_tup_bl, deq_tup_int, deq_tup_str, deq_tup_tup, deq_tup_lst, deq_lst_non, deq_lst_bl, deq_lst_int, deq_lst_str, deq_lst_tup, deq_lst_lst, deqs_nil, deqs_cons, deqs_nil_cons, deqs_cons_nil, deq_fr_non, deq_non_fr, plain_non, plain_bl, plain_int, plain_lit, plains_nil, plains_cons, plain_lst20, plain_tup20, plain_lst19, plain_tup19, plain_tup18, plain_fr19, plain_fr18, deqs_frs, plains_frs19, decide_true, decide_false, ix0, ix1, deq_fr, plain_fr20, fr_def, fr_neg, fr_neg', okStr_lit, beq_lit, bLen, bAbs, bMax2, bMin2, bInt, bGcd, bList, bTuple, ofString_inj, cl_l_draw, cl_less, cl_Grades_init, cl_Grades_names, cl_Grades_grade, cl_fraction, cl_minus, cl_Grades_to_next, cl_Grades_over_edge, cl_l_is, cl_l_mod, cl_l_gcd, cl_l_frac, cl_l_add, cl_l_sub]
  have n1 := natAbs_mul_lt ha.num (den_lt hb)
  have n2 := natAbs_mul_lt hb.num (den_lt ha)
  have n4 := natAbs_mul_lt ha.num hb.num
  have pp : (2 : Nat) ^ (1900 + 1900) + 2 ^ (1900 + 1900) ≤ 2 ^ 4000 := Nat.le_trans (by rw [← Nat.two_mul, ← Nat.pow_succ']; exact Nat.le_refl _) (pow_mono (show 1900 + 1900 + 1 ≤ 4000 by omega))
  have d0 : (a.den : Int) * b.den ≠ 0 := Int.mul_ne_zero (by have := a.den_nz; omega) (by have := b.den_nz; omega)
  have d1 : ((a.den : Int) * b.den).natAbs < 2 ^ 100 := by rw [Int.natAbs_mul]; simpa using hd
  rw [sub_eq_divInt] at q
  rw [Int.natCast_mul] at q
  exact ⟨cm_of (n := 1900) (m := 1900) ha.num (den_lt hb) (by omega), cm_of (n := 1900) (m := 1900) hb.num (den_lt ha) (by omega), cm_of (n := 1900) (m := 1900) (den_lt ha) (den_lt hb) (by omega), d0, by omega, d1, q⟩
def φ_l_mul : Fn := fun ds Q => ∃ a b : Rat, ds = [fr a, fr b] ∧ Sz 1900 a ∧ Sz 1900 b ∧ a.den * b.den < 2 ^ 100 ∧ Q (fr (a * b))
theorem len_l_mul (ds : List D) (Q : D → Prop) (h : φ_l_mul ds Q) : ds.length = 2 := by obtain ⟨_, _, rfl, _⟩ := h; rfl
theorem cl_l_mul (a b : Rat) (Q : D → Prop) : φ_l_mul [fr a, fr b] Q = (Sz 1900 a ∧ Sz 1900 b ∧ a.den * b.den < 2 ^ 100 ∧ Q (fr (a * b))) := propext ⟨fun ⟨t', b', e, h⟩ => by simp only [List.cons.injEq, fr_inj, and_true] at e; obtain ⟨rfl, rfl⟩ := e; exact h, fun h => ⟨a, b, rfl, h⟩⟩
theorem cs_mul {a b : Rat} {Q : D → Prop} (ha : Sz 40 a) (hb : Sz 40 b) : φ_l_mul [fr a, fr b] Q = Q (fr (a * b)) := by
  rw [cl_l_mul, eq_true (ha.mono (show 40 ≤ 1900 by omega)), eq_true (hb.mono (show 40 ≤ 1900 by omega)), eq_true (den40 ha hb), true_and, true_and, true_and]
/-- _law_mul(a, b): slots 0=a 1=b -/
def F_l_mul : FS :=
  (wRet (wCall φ_l_frac (wCons (wBin dMul (wBin dIx (wVar 0) (wC (.int 0))) (wBin dIx (wVar 1) (wC (.int 0)))) (wCons (wBin dMul (wBin dIx (wVar 0) (wC (.int 1))) (wBin dIx (wVar 1) (wC (.int 1)))) wNil))))

theorem r_l_mul (ds : List D) (Q : D → Prop) (h : φ_l_mul ds Q) : F_l_mul (AEnds.fn Q) (startE 2 ds) := by
  obtain ⟨a, b, rfl, ha, hb, hd, q⟩ := h
  simp only [F_l_mul, wSeq, wNext, wSet, wSetO, wAsg, wFrz, wRet, wRetN, wDrop, wIfS, wNever, wVar, wOwn, wC, wBin, wUn, wNil, wCons, wTup, wLst, wCall, dBool, wAndV, wOrV, wNotV, wIf, wChain, wTest, wAnd, wOr, wNot, wBind, bindT, setAll, wPar, wAug, wMut, wMutSet, wPut, mAppend, mExtend, wItems, wFor, wBreak, wCont, wWhile, wLc, wipeE, wSlice, wNoP, wP, startE, AEnds.law, AEnds.fn, wSetF, wFld, startI, AEnds.ini, wDict, dGet, kLook, keyD, wRng1, wRng2, wRngDown, wZip, wEnum, wRev, wPar3O, wListZip, wSliceT, wLenSet, wLm, mInsert, List.getElem?_cons_zero, List.getElem?_cons_succ, List.set_cons_zero, List.set_cons_succ, List.map_cons, List.map_nil, List.cons_append, List.nil_append, List.length_cons, List.length_nil, List.replicate, Option.some.injEq, Slot.val.injEq, Slot.own.injEq, D.lst.injEq, exists_eq_left', exists_eq_left, exists_eq', true_and, and_true, Nat.reduceAdd, Nat.reduceSub, Nat.reduceLeDiff, Bool.false_eq_true, if_true, if_false, ↓reduceIte, Int.reduceMul, Int.reduceAdd, Int.reduceSub, Int.reduceNeg, Int.reduceLT, Int.reduceLE, Int.reduceEq, Nat.reduceMul, Nat.reduceLT, String.reduceEq, String.reduceNe, Int.reduceToNat, reduceCtorEq, Bool.not_true, Bool.not_false, Bool.true_or, Bool.or_true, Bool.false_or, Bool.or_false, Bool.true_and, Bool.and_true, Bool.false_and, Bool.and_false, Bool.not_eq_true', decide_eq_true_eq, decide_eq_false_iff_not, not_true_eq_false, not_false_eq_true, dIn, dNotIn, flatD, List.all_cons, List.all_nil, List.any_cons, List.any_nil, dInt2, dSub, dFdiv, dMod, dLt, dLe, dGt, dGe, dPow, dNeg, dAdd, dMul, dEq, dNe, dIsN, dNotN, isNon_non, isNon_bl, isNon_int, isNon_str, isNon_tup, isNon_lst, isNon_fr, deq_non_non, deq_non_bl, deq_non_int, deq_non_str, deq_non_tup, deq_non_lst, deq_bl_non, deq_bl_bl, deq_bl_str, deq_bl_tup, deq_bl_lst, deq_int_non, deq_int_int, deq_int_str, deq_int_tup, deq_int_lst, deq_str_non, deq_str_bl, deq_str_int, deq_str_str, deq_str_tup, deq_str_lst, deq_tup_non, deq_tup_bl, deq_tup_int, deq_tup_str, deq_tup_tup, deq_tup_lst, deq_lst_non, deq_lst_bl, deq_lst_int, deq_lst_str, deq_lst_tup, deq_lst_lst, deqs_nil, deqs_cons, deqs_nil_cons, deqs_cons_nil, deq_fr_non, deq_non_fr, plain_non, plain_bl, plain_int, plain_lit, plains_nil, plains_cons, plain_lst20, plain_tup20, plain_lst19, plain_tup19, plain_tup18, plain_fr19, plain_fr18, deqs_frs, plains_frs19, decide_true, decide_false, ix0, ix1, deq_fr, plain_fr20, fr_def, fr_neg, fr_neg', okStr_lit, beq_lit, bLen, bAbs, bMax2, bMin2, bInt, bGcd, bList, bTuple, ofString_inj, cl_l_draw, cl_less, cl_Grades_init, cl_Grades_names, cl_Grades_grade, cl_fraction, cl_minus, cl_Grades_to_next, cl_Grades_over_edge, cl_l_is, cl_l_mod, cl_l_gcd, cl_l_frac, cl_l_add, cl_l_sub, cl_l_mul]
  have n1 := natAbs_mul_lt ha.num (den_lt hb)
  have n2 := natAbs_mul_lt hb.num (den_lt ha)
  have n4 := natAbs_mul_lt ha.num hb.num
  have pp : (2 : Nat) ^ (1900 + 1900) + 2 ^ (1900 + 1900) ≤ 2 ^ 4000 := Nat.le_trans (by rw [← Nat.two_mul, ← Nat.pow_succ']; exact Nat.le_refl _) (pow_mono (show 1900 + 1900 + 1 ≤ 4000 by omega))
  have d0 : (a.den : Int) * b.den ≠ 0 := Int.mul_ne_zero (by have := a.den_nz; omega) (by have := b.den_nz; omega)
  have d1 : ((a.den : Int) * b.den).natAbs < 2 ^ 100 := by rw [Int.natAbs_mul]; simpa using hd
  rw [mul_eq_divInt] at q
  rw [Int.natCast_mul] at q
  exact ⟨cm_of (n := 1900) (m := 1900) ha.num hb.num (by omega), cm_of (n := 1900) (m := 1900) (den_lt ha) (den_lt hb) (by omega), d0, by omega, d1, q⟩
def φ_l_lt : Fn := fun ds Q => ∃ a b : Rat, ds = [fr a, fr b] ∧ Sz 1900 a ∧ Sz 1900 b ∧ Q (.bl (decide (a < b)))
theorem len_l_lt (ds : List D) (Q : D → Prop) (h : φ_l_lt ds Q) : ds.length = 2 := by obtain ⟨_, _, rfl, _⟩ := h; rfl
theorem cl_l_lt (a b : Rat) (Q : D → Prop) : φ_l_lt [fr a, fr b] Q = (Sz 1900 a ∧ Sz 1900 b ∧ Q (.bl (decide (a < b)))) := propext ⟨fun ⟨t', b', e, h⟩ => by simp only [List.cons.injEq, fr_inj, and_true] at e; obtain ⟨rfl, rfl⟩ := e; exact h, fun h => ⟨a, b, rfl, h⟩⟩
theorem cs_lt {a b : Rat} {Q : D → Prop} (ha : Sz 40 a) (hb : Sz 40 b) : φ_l_lt [fr a, fr b] Q = Q (.bl (decide (a < b))) := by
  rw [cl_l_lt, eq_true (ha.mono (show 40 ≤ 1900 by omega)), eq_true (hb.mono (show 40 ≤ 1900 by omega)), true_and, true_and]
/-- _law_lt(a, b): slots 0=a 1=b -/
def F_l_lt : FS :=
  (wRet (wBin dLt (wBin dMul (wBin dIx (wVar 0) (wC (.int 0))) (wBin dIx (wVar 1) (wC (.int 1)))) (wBin dMul (wBin dIx (wVar 1) (wC (.int 0))) (wBin dIx (wVar 0) (wC (.int 1))))))

theorem r_l_lt (ds : List D) (Q : D → Prop) (h : φ_l_lt ds Q) : F_l_lt (AEnds.fn Q) (startE 2 ds) := by
  obtain ⟨a, b, rfl, ha, hb, q⟩ := h
  simp only [F_l_lt, wSeq, wNext, wSet, wSetO, wAsg, wFrz, wRet, wRetN, wDrop, wIfS, wNever, wVar, wOwn, wC, wBin, wUn, wNil, wCons, wTup, wLst, wCall, dBool, wAndV, wOrV, wNotV, wIf, wChain, wTest, wAnd, wOr, wNot, wBind, bindT, setAll, wPar, wAug, wMut, wMutSet, wPut, mAppend, mExtend, wItems, wFor, wBreak, wCont, wWhile, wLc, wipeE, wSlice, wNoP, wP, startE, AEnds.law, AEnds.fn, wSetF, wFld, startI, AEnds.ini, wDict, dGet, kLook, keyD, wRng1, wRng2, wRngDown, wZip, wEnum, wRev, wPar3O, wListZip, wSliceT, wLenSet, wLm, mInsert, List.getElem?_cons_zero, List.getElem?_cons_succ, List.set_cons_zero, List.set_cons_succ, List.map_cons, List.map_nil, List.cons_append, List.nil_append, List.length_cons, List.length_nil, List.replicate, Option.some.injEq, Slot.val.injEq, Slot.own.injEq, D.lst.injEq, exists_eq_left', exists_eq_left, exists_eq', true_and, and_true, Nat.reduceAdd, Nat.reduceSub, Nat.reduceLeDiff, Bool.false_eq_true, if_true, if_false, ↓reduceIte, Int.reduceMul, Int.reduceAdd, Int.reduceSub, Int.reduceNeg, Int.reduceLT, Int.reduceLE, Int.reduceEq, Nat.reduceMul, Nat.reduceLT, String.reduceEq, String.reduceNe, Int.reduceToNat, reduceCtorEq, Bool.not_true, Bool.not_false, Bool.true_or, Bool.or_true, Bool.false_or, Bool.or_false, Bool.true_and, Bool.and_true, Bool.false_and, Bool.and_false, Bool.not_eq_true', decide_eq_true_eq, decide_eq_false_iff_not, not_true_eq_false, not_false_eq_true, dIn, dNotIn, flatD, List.all_cons, List.all_nil, List.any_cons, List.any_nil, dInt2, dSub, dFdiv, dMod, dLt, dLe, dGt, dGe, dPow, dNeg, dAdd, dMul, dEq, dNe, dIsN, dNotN, isNon_non, isNon_bl, isNon_int, isNon_str, isNon_tup, isNon_lst, isNon_fr, deq_non_non, deq_non_bl, deq_non_int, deq_non_str, deq_non_tup, deq_non_lst, deq_bl_non, deq_bl_bl, deq_bl_str, deq_bl_tup, deq_bl_lst, deq_int_non, deq_int_int, deq_int_str, deq_int_tup, deq_int_lst, deq_str_non, deq_str_bl, deq_str_int, deq_str_str, deq_str_tup, deq_str_lst, deq_tup_non, deq_tup_bl, deq_tup_int, deq_tup_str, deq_tup_tup, deq_tup_lst, deq_lst_non, deq_lst_bl, deq_lst_int, deq_lst_str, deq_lst_tup, deq_lst_lst, deqs_nil, deqs_cons, deqs_nil_cons, deqs_cons_nil, deq_fr_non, deq_non_fr, plain_non, plain_bl, plain_int, plain_lit, plains_nil, plains_cons, plain_lst20, plain_tup20, plain_lst19, plain_tup19, plain_tup18, plain_fr19, plain_fr18, deqs_frs, plains_frs19, decide_true, decide_false, ix0, ix1, deq_fr, plain_fr20, fr_def, fr_neg, fr_neg', okStr_lit, beq_lit, bLen, bAbs, bMax2, bMin2, bInt, bGcd, bList, bTuple, ofString_inj]
  rw [decide_eq_decide.mpr (Rat.lt_iff a b)] at q
  exact ⟨cm_of (n := 1900) (m := 1900) ha.num (den_lt hb) (by omega), cm_of (n := 1900) (m := 1900) hb.num (den_lt ha) (by omega), q⟩
/-- a drawn fraction: t / lower, t from 0 to most by lower -/
def φ_l_fraction : Fn := fun ds Q => ∃ most : Int, ds = [.tape, .int most] ∧ 0 ≤ most ∧ most ≤ 1000 ∧ ∀ t b : Int, 1 ≤ b → b ≤ 4 → 0 ≤ t → t ≤ most * b → Q (fr (Rat.divInt t b))
theorem len_l_fraction (ds : List D) (Q : D → Prop) (h : φ_l_fraction ds Q) : ds.length = 2 := by obtain ⟨_, rfl, _⟩ := h; rfl
theorem cl_l_fraction (most : Int) (Q : D → Prop) : φ_l_fraction [.tape, .int most] Q = (0 ≤ most ∧ most ≤ 1000 ∧ ∀ t b : Int, 1 ≤ b → b ≤ 4 → 0 ≤ t → t ≤ most * b → Q (fr (Rat.divInt t b))) := propext ⟨fun ⟨t', e, h⟩ => by simp only [List.cons.injEq, D.int.injEq, and_true, true_and] at e; subst e; exact h, fun h => ⟨most, rfl, h⟩⟩
/-- _law_fraction(tape, most): slots 0=tape 1=most 2=lower -/
def F_l_fraction : FS :=
  (wSeq (wSet 2 (wBin dAdd (wC (.int 1)) (wCall φ_l_draw (wCons (wVar 0) (wCons (wC (.int 4)) wNil)))))
    (wRet (wCall φ_l_frac (wCons (wCall φ_l_draw (wCons (wVar 0) (wCons (wBin dAdd (wBin dMul (wVar 1) (wVar 2)) (wC (.int 1))) wNil))) (wCons (wVar 2) wNil)))))

theorem r_l_fraction (ds : List D) (Q : D → Prop) (h : φ_l_fraction ds Q) : F_l_fraction (AEnds.fn Q) (startE 3 ds) := by
  obtain ⟨most, rfl, h0, h1, q⟩ := h
  simp only [F_l_fraction, wSeq, wNext, wSet, wSetO, wAsg, wFrz, wRet, wRetN, wDrop, wIfS, wNever, wVar, wOwn, wC, wBin, wUn, wNil, wCons, wTup, wLst, wCall, dBool, wAndV, wOrV, wNotV, wIf, wChain, wTest, wAnd, wOr, wNot, wBind, bindT, setAll, wPar, wAug, wMut, wMutSet, wPut, mAppend, mExtend, wItems, wFor, wBreak, wCont, wWhile, wLc, wipeE, wSlice, wNoP, wP, startE, AEnds.law, AEnds.fn, wSetF, wFld, startI, AEnds.ini, wDict, dGet, kLook, keyD, wRng1, wRng2, wRngDown, wZip, wEnum, wRev, wPar3O, wListZip, wSliceT, wLenSet, wLm, mInsert, List.getElem?_cons_zero, List.getElem?_cons_succ, List.set_cons_zero, List.set_cons_succ, List.map_cons, List.map_nil, List.cons_append, List.nil_append, List.length_cons, List.length_nil, List.replicate, Option.some.injEq, Slot.val.injEq, Slot.own.injEq, D.lst.injEq, exists_eq_left', exists_eq_left, exists_eq', true_and, and_true, Nat.reduceAdd, Nat.reduceSub, Nat.reduceLeDiff, Bool.false_eq_true, if_true, if_false, ↓reduceIte, Int.reduceMul, Int.reduceAdd, Int.reduceSub, Int.reduceNeg, Int.reduceLT, Int.reduceLE, Int.reduceEq, Nat.reduceMul, Nat.reduceLT, String.reduceEq, String.reduceNe, Int.reduceToNat, reduceCtorEq, Bool.not_true, Bool.not_false, Bool.true_or, Bool.or_true, Bool.false_or, Bool.or_false, Bool.true_and, Bool.and_true, Bool.false_and, Bool.and_false, Bool.not_eq_true', decide_eq_true_eq, decide_eq_false_iff_not, not_true_eq_false, not_false_eq_true, dIn, dNotIn, flatD, List.all_cons, List.all_nil, List.any_cons, List.any_nil, dInt2, dSub, dFdiv, dMod, dLt, dLe, dGt, dGe, dPow, dNeg, dAdd, dMul, dEq, dNe, dIsN, dNotN, isNon_non, isNon_bl, isNon_int, isNon_str, isNon_tup, isNon_lst, isNon_fr, deq_non_non, deq_non_bl, deq_non_int, deq_non_str, deq_non_tup, deq_non_lst, deq_bl_non, deq_bl_bl, deq_bl_str, deq_bl_tup, deq_bl_lst, deq_int_non, deq_int_int, deq_int_str, deq_int_tup, deq_int_lst, deq_str_non, deq_str_bl, deq_str_int, deq_str_str, deq_str_tup, deq_str_lst, deq_tup_non, deq_tup_bl, deq_tup_int, deq_tup_str, deq_tup_tup, deq_tup_lst, deq_lst_non, deq_lst_bl, deq_lst_int, deq_lst_str, deq_lst_tup, deq_lst_lst, deqs_nil, deqs_cons, deqs_nil_cons, deqs_cons_nil, deq_fr_non, deq_non_fr, plain_non, plain_bl, plain_int, plain_lit, plains_nil, plains_cons, plain_lst20, plain_tup20, plain_lst19, plain_tup19, plain_tup18, plain_fr19, plain_fr18, deqs_frs, plains_frs19, decide_true, decide_false, ix0, ix1, deq_fr, plain_fr20, fr_def, fr_neg, fr_neg', okStr_lit, beq_lit, bLen, bAbs, bMax2, bMin2, bInt, bGcd, bList, bTuple, ofString_inj, cl_l_draw, cl_less, cl_Grades_init, cl_Grades_names, cl_Grades_grade, cl_fraction, cl_minus, cl_Grades_to_next, cl_Grades_over_edge, cl_l_is, cl_l_mod, cl_l_gcd, cl_l_frac, cl_l_add, cl_l_sub, cl_l_mul, cl_l_lt, cl_l_fraction, φ_l_draw]
  intro d d0 d1
  have hm : most * (1 + d) ≤ 1000 * 4 := Int.mul_le_mul h1 (by omega) (by omega) (by omega)
  have hm0 : 0 ≤ most * (1 + d) := Int.mul_nonneg h0 (by omega)
  refine ⟨.inl ⟨by omega, by omega⟩, ⟨by omega, by omega⟩, fun t t0 t1 => ?_⟩
  have p : (2 : Nat) ^ 20 ≤ 2 ^ 4000 := pow_mono (by omega)
  exact ⟨by omega, by omega, by omega, q t (1 + d) (by omega) (by omega) t0 (by omega)⟩
/-- the drawn grades -/
structure Ld (rows : Rws) : Prop where
  one : 1 ≤ rows.length
  few : rows.length ≤ 4
  nam : ∀ p ∈ rows, p.1 ∈ (["x", "y", "w", "v"] : List Str)
  nod : (rows.map (·.1)).Nodup
  desc : rows.Pairwise fun p q => q.2 < p.2
  le : ∀ p ∈ rows, ∃ i : Int, p.2 = (i : Rat) ∧ 1 ≤ i ∧ i ≤ 8
def φ_l_ladder : Fn := fun ds Q => ds = [.tape, .tup [.int 8, .int 1]] ∧ ∀ rows, Ld rows → Q (.tup (rows.map gr))
theorem len_l_ladder (ds : List D) (Q : D → Prop) (h : φ_l_ladder ds Q) : ds.length = 2 := by obtain ⟨rfl, _⟩ := h; rfl
theorem cl_l_ladder (Q : D → Prop) : φ_l_ladder [.tape, .tup [.int 8, .int 1]] Q = ∀ rows, Ld rows → Q (.tup (rows.map gr)) := propext ⟨fun h => h.2, fun h => ⟨rfl, h⟩⟩
theorem eight_fr : D.tup [.int 8, .int 1] = fr 8 := rfl
/-- _law_ladder(tape, top): slots 0=tape 1=top 2=many 3=k -/
def F_l_ladder : FS :=
  (wSeq (wIfS (wTest (wBin dEq (wVar 1) (wTup (wCons (wC (.int 0)) (wCons (wC (.int 1)) wNil)))))
      (wRet (wTup (wCons (wTup (wCons (wC (.str "x")) (wCons (wTup (wCons (wC (.int 1)) (wCons (wC (.int 1)) wNil))) wNil))) wNil)))
      wNext)
    (wSeq (wSet 2 (wBin dAdd (wC (.int 1)) (wCall φ_l_draw (wCons (wVar 0) (wCons (wC (.int 4)) wNil)))))
    (wRet (wCall bTuple (wCons (wLc (wRng1 (wCons (wVar 2) wNil)) (.name 3) wYes (wTup (wCons (wBin dIx (wLst (wCons (wC (.str "x")) (wCons (wC (.str "y")) (wCons (wC (.str "w")) (wCons (wC (.str "v")) wNil))))) (wVar 3)) (wCons (wCall φ_l_mul (wCons (wVar 1) (wCons (wCall φ_l_frac (wCons (wBin dSub (wBin dSub (wC (.int 8)) (wBin dMul (wC (.int 2)) (wVar 3))) (wCall φ_l_draw (wCons (wVar 0) (wCons (wC (.int 2)) wNil)))) (wCons (wC (.int 8)) wNil))) wNil))) wNil))) [3]) wNil)))))

def nmK (k : Nat) : Str := if k = 0 then "x" else if k = 1 then "y" else if k = 2 then "w" else "v"
def ladE : FE := wTup (wCons (wBin dIx (wLst (wCons (wC (.str "x")) (wCons (wC (.str "y")) (wCons (wC (.str "w")) (wCons (wC (.str "v")) wNil))))) (wVar 3)) (wCons (wCall φ_l_mul (wCons (wVar 1) (wCons (wCall φ_l_frac (wCons (wBin dSub (wBin dSub (wC (.int 8)) (wBin dMul (wC (.int 2)) (wVar 3))) (wCall φ_l_draw (wCons (wVar 0) (wCons (wC (.int 2)) wNil)))) (wCons (wC (.int 8)) wNil))) wNil))) wNil))
theorem ladder_one {P : D → Prop} {s2 : Slot} (k : Nat) (hk : k ≤ 3) (h : ∀ i : Int, 7 - 2 * k ≤ i → i ≤ 8 - 2 * k → P (gr (nmK k, (i : Rat)))) :
    ladE
      [.val .tape, .val (.tup [.int 8, .int 1]), s2, .val (.int (k : Int))] P := by
  have n : ∀ Q : D → Prop, dIx (.lst [.str "x", .str "y", .str "w", .str "v"]) (.int (k : Int)) Q = Q (.str (nmK k)) := fun Q => by
    rcases (by omega : k = 0 ∨ k = 1 ∨ k = 2 ∨ k = 3) with rfl | rfl | rfl | rfl <;> exact ix_lst Q (by omega) rfl
  simp only [ladE, wSeq, wNext, wSet, wSetO, wAsg, wFrz, wRet, wRetN, wDrop, wIfS, wNever, wVar, wOwn, wC, wBin, wUn, wNil, wCons, wTup, wLst, wCall, dBool, wAndV, wOrV, wNotV, wIf, wChain, wTest, wAnd, wOr, wNot, wBind, bindT, setAll, wPar, wAug, wMut, wMutSet, wPut, mAppend, mExtend, wItems, wFor, wBreak, wCont, wWhile, wLc, wipeE, wSlice, wNoP, wP, startE, AEnds.law, AEnds.fn, wSetF, wFld, startI, AEnds.ini, wDict, dGet, kLook, keyD, wRng1, wRng2, wRngDown, wZip, wEnum, wRev, wPar3O, wListZip, wSliceT, wLenSet, wLm, mInsert, List.getElem?_cons_zero, List.getElem?_cons_succ, List.set_cons_zero, List.set_cons_succ, List.map_cons, List.map_nil, List.cons_append, List.nil_append, List.length_cons, List.length_nil, List.replicate, Option.some.injEq, Slot.val.injEq, Slot.own.injEq, D.lst.injEq, exists_eq_left', exists_eq_left, exists_eq', true_and, and_true, Nat.reduceAdd, Nat.reduceSub, Nat.reduceLeDiff, Bool.false_eq_true, if_true, if_false, ↓reduceIte, Int.reduceMul, Int.reduceAdd, Int.reduceSub, Int.reduceNeg, Int.reduceLT, Int.reduceLE, Int.reduceEq, Nat.reduceMul, Nat.reduceLT, String.reduceEq, String.reduceNe, Int.reduceToNat, reduceCtorEq, Bool.not_true, Bool.not_false, Bool.true_or, Bool.or_true, Bool.false_or, Bool.or_false, Bool.true_and, Bool.and_true, Bool.false_and, Bool.and_false, Bool.not_eq_true', decide_eq_true_eq, decide_eq_false_iff_not, not_true_eq_false, not_false_eq_true, n, dSub, dMul, dInt2, cl_l_draw, cl_l_frac]
  have p : (2 : Nat) ^ 20 ≤ 2 ^ 4000 := pow_mono (by omega)
  repeat (refine And.intro (by first | omega | decide | exact .inl ⟨by omega, by omega⟩) ?_)
  intro d d0 d1
  repeat (refine And.intro (by first | omega | decide | exact .inl ⟨by omega, by omega⟩) ?_)
  rw [eight_fr]
  have s1 : Sz 40 (8 : Rat) := Sz.cast 8 (by decide) (by omega)
  have s2 : Sz 40 (Rat.divInt (8 - 2 * (k : Int) - d) 8) := divInt_sz (by omega) (by omega) (by omega)
  rw [cs_mul s1 s2]
  have e : 8 * Rat.divInt (8 - 2 * (k : Int) - d) 8 = ((8 - 2 * (k : Int) - d : Int) : Rat) := by
    rw [Rat.divInt_eq_div]
    have : ((8 : Int) : Rat) = 8 := rfl
    rw [this]
    grind
  rw [e]
  exact h _ (by omega) (by omega)
theorem F_ladder_eq : F_l_ladder = (wSeq (wIfS (wTest (wBin dEq (wVar 1) (wTup (wCons (wC (.int 0)) (wCons (wC (.int 1)) wNil)))))
      (wRet (wTup (wCons (wTup (wCons (wC (.str "x")) (wCons (wTup (wCons (wC (.int 1)) (wCons (wC (.int 1)) wNil))) wNil))) wNil)))
      wNext)
    (wSeq (wSet 2 (wBin dAdd (wC (.int 1)) (wCall φ_l_draw (wCons (wVar 0) (wCons (wC (.int 4)) wNil)))))
    (wRet (wCall bTuple (wCons (wLc (wRng1 (wCons (wVar 2) wNil)) (.name 3) wYes ladE [3]) wNil))))) := rfl
theorem nmK_mem (k : Nat) : nmK k ∈ (["x", "y", "w", "v"] : List Str) := by
  unfold nmK
  split
  · simp
  · split
    · simp
    · split <;> simp
theorem nmK_ne {i j : Nat} (h : i < j) (hj : j ≤ 3) : nmK i ≠ nmK j := by
  rcases (by omega : (i = 0 ∧ j = 1) ∨ (i = 0 ∧ j = 2) ∨ (i = 0 ∧ j = 3) ∨ (i = 1 ∧ j = 2) ∨ (i = 1 ∧ j = 3) ∨ (i = 2 ∧ j = 3)) with ⟨rfl, rfl⟩ | ⟨rfl, rfl⟩ | ⟨rfl, rfl⟩ | ⟨rfl, rfl⟩ | ⟨rfl, rfl⟩ | ⟨rfl, rfl⟩ <;> simp [nmK, ofString_inj]
def rowsK (is : List Int) : Rws := is.mapIdx fun k (i : Int) => ((nmK k, (i : Rat)) : Str × Rat)
theorem ld_of {is : List Int} (h1 : 1 ≤ is.length) (h4 : is.length ≤ 4) (h : ∀ (k : Nat) (i : Int), is[k]? = some i → 7 - 2 * (k : Int) ≤ i ∧ i ≤ 8 - 2 * (k : Int)) : Ld (rowsK is) := by
  have len : (rowsK is).length = is.length := by simp [rowsK]
  have at_ : ∀ k (hk : k < (rowsK is).length), (rowsK is)[k] = (nmK k, ((is[k]'(by rw [← len]; exact hk) : Int) : Rat)) := fun k hk => by simp [rowsK]
  refine ⟨by rw [len]; exact h1, by rw [len]; exact h4, fun p hp => ?_, ?_, ?_, fun p hp => ?_⟩
  · obtain ⟨k, hk, rfl⟩ := List.getElem_of_mem hp
    rw [at_]
    exact nmK_mem k
  · refine List.pairwise_iff_getElem.mpr fun i j hi hj hij => ?_
    rw [List.length_map] at hi hj
    rw [List.getElem_map, List.getElem_map, at_ i hi, at_ j hj]
    exact nmK_ne hij (by omega)
  · refine List.pairwise_iff_getElem.mpr fun i j hi hj hij => ?_
    rw [at_ i hi, at_ j hj]
    have a := h i _ (List.getElem?_eq_getElem (by omega))
    have b := h j _ (List.getElem?_eq_getElem (by omega))
    show ((_ : Int) : Rat) < ((_ : Int) : Rat)
    rw [Rat.intCast_lt_intCast]
    omega
  · obtain ⟨k, hk, rfl⟩ := List.getElem_of_mem hp
    rw [at_]
    have a := h k _ (List.getElem?_eq_getElem (by omega))
    exact ⟨_, rfl, by omega, by omega⟩
theorem get_one {is : List Int} {l : Nat → Int → Prop} (h : ∀ k (hk : k < is.length), l k is[k]) : ∀ (k : Nat) (i : Int), is[k]? = some i → l k i := fun k i e => by
  obtain ⟨hk, rfl⟩ := List.getElem?_eq_some_iff.mp e
  exact h k hk
theorem r_l_ladder (ds : List D) (Q : D → Prop) (h : φ_l_ladder ds Q) : F_l_ladder (AEnds.fn Q) (startE 4 ds) := by
  obtain ⟨rfl, q⟩ := h
  rw [F_ladder_eq]
  simp only [wSeq, wIfS, wTest, wBin, wVar, wTup, wC, wCons, wNil, wNext, wSet, wCall, wRet, wLc, wRng1, wipeE, startE, AEnds.fn, List.getElem?_cons_zero, List.getElem?_cons_succ, List.set_cons_zero, List.set_cons_succ, List.map_cons, List.map_nil, List.cons_append, List.nil_append, List.length_cons, List.length_nil, List.replicate, Option.some.injEq, Slot.val.injEq, Slot.own.injEq, D.lst.injEq, exists_eq_left', exists_eq_left, exists_eq', true_and, and_true, Nat.reduceAdd, Nat.reduceSub, Nat.reduceLeDiff, Bool.false_eq_true, if_true, if_false, ↓reduceIte, Int.reduceMul, Int.reduceAdd, Int.reduceSub, Int.reduceNeg, Int.reduceLT, Int.reduceLE, Int.reduceEq, Nat.reduceMul, Nat.reduceLT, String.reduceEq, String.reduceNe, Int.reduceToNat, reduceCtorEq, Bool.not_true, Bool.not_false, Bool.true_or, Bool.or_true, Bool.false_or, Bool.or_false, Bool.true_and, Bool.and_true, Bool.false_and, Bool.and_false, Bool.not_eq_true', decide_eq_true_eq, decide_eq_false_iff_not, not_true_eq_false, not_false_eq_true, dIn, dNotIn, flatD, List.all_cons, List.all_nil, List.any_cons, List.any_nil, dInt2, dSub, dFdiv, dMod, dLt, dLe, dGt, dGe, dPow, dNeg, dAdd, dMul, dEq, dNe, dIsN, dNotN, isNon_non, isNon_bl, isNon_int, isNon_str, isNon_tup, isNon_lst, isNon_fr, deq_non_non, deq_non_bl, deq_non_int, deq_non_str, deq_non_tup, deq_non_lst, deq_bl_non, deq_bl_bl, deq_bl_str, deq_bl_tup, deq_bl_lst, deq_int_non, deq_int_int, deq_int_str, deq_int_tup, deq_int_lst, deq_str_non, deq_str_bl, deq_str_int, deq_str_str, deq_str_tup, deq_str_lst, deq_tup_non, deq_tup_bl, deq_tup_int, deq_tup_str, deq_tup_tup, deq_tup_lst, deq_lst_non, deq_lst_bl, deq_lst_int, deq_lst_str, deq_lst_tup, deq_lst_lst, deqs_nil, deqs_cons, deqs_nil_cons, deqs_cons_nil, deq_fr_non, deq_non_fr, plain_non, plain_bl, plain_int, plain_lit, plains_nil, plains_cons, plain_lst20, plain_tup20, plain_lst19, plain_tup19, plain_tup18, plain_fr19, plain_fr18, deqs_frs, plains_frs19, decide_true, decide_false, ix0, ix1, deq_fr, plain_fr20, fr_def, fr_neg, fr_neg', okStr_lit, beq_lit, bLen, bAbs, bMax2, bMin2, bInt, bGcd, bList, bTuple, ofString_inj, cl_l_draw]
  intro d d0 d1
  refine ⟨by omega, ?_⟩
  have fin : ∀ is : List Int, 1 ≤ is.length → is.length ≤ 4 → (∀ (k : Nat) (i : Int), is[k]? = some i → 7 - 2 * (k : Int) ≤ i ∧ i ≤ 8 - 2 * (k : Int)) → bTuple [.lst ((rowsK is).map gr)] Q := fun is a b c => q _ (ld_of a b c)
  rcases (by omega : d = 0 ∨ d = 1 ∨ d = 2 ∨ d = 3) with rfl | rfl | rfl | rfl
  · rw [show rngD 0 (1 + 0 : Int).toNat = [.int ((0 : Nat) : Int)] from rfl]
    simp only [wComp, wYes, wBind, bindT, List.getElem?_cons_zero, List.getElem?_cons_succ, List.set_cons_zero, List.set_cons_succ, List.map_cons, List.map_nil, List.cons_append, List.nil_append, List.length_cons, List.length_nil, List.replicate, Option.some.injEq, Slot.val.injEq, Slot.own.injEq, D.lst.injEq, exists_eq_left', exists_eq_left, exists_eq', true_and, and_true, Nat.reduceAdd, Nat.reduceSub, Nat.reduceLeDiff, Bool.false_eq_true, if_true, if_false, ↓reduceIte, Int.reduceMul, Int.reduceAdd, Int.reduceSub, Int.reduceNeg, Int.reduceLT, Int.reduceLE, Int.reduceEq, Nat.reduceMul, Nat.reduceLT, String.reduceEq, String.reduceNe, Int.reduceToNat, reduceCtorEq, Bool.not_true, Bool.not_false, Bool.true_or, Bool.or_true, Bool.false_or, Bool.or_false, Bool.true_and, Bool.and_true, Bool.false_and, Bool.and_false, Bool.not_eq_true', decide_eq_true_eq, decide_eq_false_iff_not, not_true_eq_false, not_false_eq_true]
    refine ladder_one 0 (by omega) fun i0 a0 b0 => ?_
    exact fin [i0] (by simp) (by simp) (get_one fun k hk => by
      simp only [List.length_cons, List.length_nil] at hk
      rcases (by omega : k = 0) with rfl
      · exact ⟨a0, b0⟩)
  · rw [show rngD 0 (1 + 1 : Int).toNat = [.int ((0 : Nat) : Int), .int ((1 : Nat) : Int)] from rfl]
    simp only [wComp, wYes, wBind, bindT, List.getElem?_cons_zero, List.getElem?_cons_succ, List.set_cons_zero, List.set_cons_succ, List.map_cons, List.map_nil, List.cons_append, List.nil_append, List.length_cons, List.length_nil, List.replicate, Option.some.injEq, Slot.val.injEq, Slot.own.injEq, D.lst.injEq, exists_eq_left', exists_eq_left, exists_eq', true_and, and_true, Nat.reduceAdd, Nat.reduceSub, Nat.reduceLeDiff, Bool.false_eq_true, if_true, if_false, ↓reduceIte, Int.reduceMul, Int.reduceAdd, Int.reduceSub, Int.reduceNeg, Int.reduceLT, Int.reduceLE, Int.reduceEq, Nat.reduceMul, Nat.reduceLT, String.reduceEq, String.reduceNe, Int.reduceToNat, reduceCtorEq, Bool.not_true, Bool.not_false, Bool.true_or, Bool.or_true, Bool.false_or, Bool.or_false, Bool.true_and, Bool.and_true, Bool.false_and, Bool.and_false, Bool.not_eq_true', decide_eq_true_eq, decide_eq_false_iff_not, not_true_eq_false, not_false_eq_true]
    refine ladder_one 0 (by omega) fun i0 a0 b0 => ?_
    refine ladder_one 1 (by omega) fun i1 a1 b1 => ?_
    exact fin [i0, i1] (by simp) (by simp) (get_one fun k hk => by
      simp only [List.length_cons, List.length_nil] at hk
      rcases (by omega : k = 0 ∨ k = 1) with rfl | rfl
      · exact ⟨a0, b0⟩
      · exact ⟨a1, b1⟩)
  · rw [show rngD 0 (1 + 2 : Int).toNat = [.int ((0 : Nat) : Int), .int ((1 : Nat) : Int), .int ((2 : Nat) : Int)] from rfl]
    simp only [wComp, wYes, wBind, bindT, List.getElem?_cons_zero, List.getElem?_cons_succ, List.set_cons_zero, List.set_cons_succ, List.map_cons, List.map_nil, List.cons_append, List.nil_append, List.length_cons, List.length_nil, List.replicate, Option.some.injEq, Slot.val.injEq, Slot.own.injEq, D.lst.injEq, exists_eq_left', exists_eq_left, exists_eq', true_and, and_true, Nat.reduceAdd, Nat.reduceSub, Nat.reduceLeDiff, Bool.false_eq_true, if_true, if_false, ↓reduceIte, Int.reduceMul, Int.reduceAdd, Int.reduceSub, Int.reduceNeg, Int.reduceLT, Int.reduceLE, Int.reduceEq, Nat.reduceMul, Nat.reduceLT, String.reduceEq, String.reduceNe, Int.reduceToNat, reduceCtorEq, Bool.not_true, Bool.not_false, Bool.true_or, Bool.or_true, Bool.false_or, Bool.or_false, Bool.true_and, Bool.and_true, Bool.false_and, Bool.and_false, Bool.not_eq_true', decide_eq_true_eq, decide_eq_false_iff_not, not_true_eq_false, not_false_eq_true]
    refine ladder_one 0 (by omega) fun i0 a0 b0 => ?_
    refine ladder_one 1 (by omega) fun i1 a1 b1 => ?_
    refine ladder_one 2 (by omega) fun i2 a2 b2 => ?_
    exact fin [i0, i1, i2] (by simp) (by simp) (get_one fun k hk => by
      simp only [List.length_cons, List.length_nil] at hk
      rcases (by omega : k = 0 ∨ k = 1 ∨ k = 2) with rfl | rfl | rfl
      · exact ⟨a0, b0⟩
      · exact ⟨a1, b1⟩
      · exact ⟨a2, b2⟩)
  · rw [show rngD 0 (1 + 3 : Int).toNat = [.int ((0 : Nat) : Int), .int ((1 : Nat) : Int), .int ((2 : Nat) : Int), .int ((3 : Nat) : Int)] from rfl]
    simp only [wComp, wYes, wBind, bindT, List.getElem?_cons_zero, List.getElem?_cons_succ, List.set_cons_zero, List.set_cons_succ, List.map_cons, List.map_nil, List.cons_append, List.nil_append, List.length_cons, List.length_nil, List.replicate, Option.some.injEq, Slot.val.injEq, Slot.own.injEq, D.lst.injEq, exists_eq_left', exists_eq_left, exists_eq', true_and, and_true, Nat.reduceAdd, Nat.reduceSub, Nat.reduceLeDiff, Bool.false_eq_true, if_true, if_false, ↓reduceIte, Int.reduceMul, Int.reduceAdd, Int.reduceSub, Int.reduceNeg, Int.reduceLT, Int.reduceLE, Int.reduceEq, Nat.reduceMul, Nat.reduceLT, String.reduceEq, String.reduceNe, Int.reduceToNat, reduceCtorEq, Bool.not_true, Bool.not_false, Bool.true_or, Bool.or_true, Bool.false_or, Bool.or_false, Bool.true_and, Bool.and_true, Bool.false_and, Bool.and_false, Bool.not_eq_true', decide_eq_true_eq, decide_eq_false_iff_not, not_true_eq_false, not_false_eq_true]
    refine ladder_one 0 (by omega) fun i0 a0 b0 => ?_
    refine ladder_one 1 (by omega) fun i1 a1 b1 => ?_
    refine ladder_one 2 (by omega) fun i2 a2 b2 => ?_
    refine ladder_one 3 (by omega) fun i3 a3 b3 => ?_
    exact fin [i0, i1, i2, i3] (by simp) (by simp) (get_one fun k hk => by
      simp only [List.length_cons, List.length_nil] at hk
      rcases (by omega : k = 0 ∨ k = 1 ∨ k = 2 ∨ k = 3) with rfl | rfl | rfl | rfl
      · exact ⟨a0, b0⟩
      · exact ⟨a1, b1⟩
      · exact ⟨a2, b2⟩
      · exact ⟨a3, b3⟩)
/-! law: slots 0=script 1=tape 2=rows 3=k 4=top 5=bottom 6=fresh 7=grades 8=finer 9=marks 10=inside 11=n 12=next_one 13=above 14=place 15=counts 16=more 17=step 18=moved 19=back 20=least 21=name -/
def S_law_0 : FS :=
  (wPar [2, 3] (wCons (wCall bList (wCons (wCall φ_l_ladder (wCons (wVar 1) (wCons (wTup (wCons (wC (.int 8)) (wCons (wC (.int 1)) wNil))) wNil))) wNil)) (wCons (wC (.int 0)) wNil)))
def S_law_1 : FS :=
  (wSet 3 (wCall φ_l_draw (wCons (wVar 1) (wCons (wBin dAdd (wCall bLen (wCons (wVar 2) wNil)) (wC (.int 1))) wNil))))
def S_law_2 : FS :=
  (wSet 4 (wIf (wTest (wBin dEq (wVar 3) (wC (.int 0)))) (wTup (wCons (wC (.int 9)) (wCons (wC (.int 1)) wNil))) (wBin dIx (wBin dIx (wVar 2) (wBin dSub (wVar 3) (wC (.int 1)))) (wC (.int 1)))))
def S_law_3 : FS :=
  (wSet 5 (wIf (wTest (wBin dEq (wVar 3) (wCall bLen (wCons (wVar 2) wNil)))) (wTup (wCons (wC (.int 0)) (wCons (wC (.int 1)) wNil))) (wBin dIx (wBin dIx (wVar 2) (wVar 3)) (wC (.int 1)))))
def S_law_4 : FS :=
  (wSet 6 (wCall φ_l_add (wCons (wVar 5) (wCons (wCall φ_l_mul (wCons (wCall φ_l_sub (wCons (wVar 4) (wCons (wVar 5) wNil))) (wCons (wCall φ_l_frac (wCons (wBin dAdd (wC (.int 1)) (wCall φ_l_draw (wCons (wVar 1) (wCons (wC (.int 2)) wNil)))) (wCons (wC (.int 3)) wNil))) wNil))) wNil))))
def S_law_5 : FS :=
  (wPar [7, 8] (wCons (wCall φ_Grades_init (wCons (wCall bTuple (wCons (wVar 2) wNil)) (wCons (wC (.str "u")) wNil))) (wCons (wCall φ_Grades_init (wCons (wCall bTuple (wCons (wBin dAdd (wBin dAdd (wSlice (wVar 2) wNoP (wP (wVar 3))) (wLst (wCons (wTup (wCons (wC (.str "z")) (wCons (wVar 6) wNil))) wNil))) (wSlice (wVar 2) (wP (wVar 3)) wNoP)) wNil)) (wCons (wC (.str "u")) wNil))) wNil)))
def S_law_6 : FS :=
  (wSet 9 (wBin dAdd (wBin dAdd (wLc (wRng1 (wCons (wC (.int 5)) wNil)) (.name 11) wYes (wCall φ_l_fraction (wCons (wVar 1) (wCons (wC (.int 9)) wNil))) [11]) (wLst (wCons (wVar 6) wNil))) (wLc (wItems (wVar 2)) (.tup [21, 20]) wYes (wVar 20) [21, 20])))
def S_law_7 : FS :=
  (wSet 10 (wLc (wRng1 (wCons (wCall bLen (wCons (wVar 9) wNil)) wNil)) (.name 11) (wAnd (wNot (wTest (wCall φ_l_lt (wCons (wBin dIx (wVar 9) (wVar 11)) (wCons (wVar 6) wNil))))) (wTest (wCall φ_l_lt (wCons (wBin dIx (wVar 9) (wVar 11)) (wCons (wVar 4) wNil))))) (wVar 11) [11]))
def S_law_8 : FS :=
  (wIfS (wTest (wBin dEq (wVar 3) (wC (.int 0))))
      (wSet 10 (wLc (wRng1 (wCons (wCall bLen (wCons (wVar 9) wNil)) wNil)) (.name 11) (wNot (wTest (wCall φ_l_lt (wCons (wBin dIx (wVar 9) (wVar 11)) (wCons (wVar 6) wNil))))) (wVar 11) [11]))
      wNext)
def S_law_9_0 : FS :=
  (wIfS (wTest (wBin dNe (wMeth "Grades" "grade" φ_Grades_grade (wVar 8) (wCons (wBin dIx (wVar 9) (wVar 11)) wNil)) (wIf (wTest (wBin dIn (wVar 11) (wVar 10))) (wC (.str "z")) (wMeth "Grades" "grade" φ_Grades_grade (wVar 7) (wCons (wBin dIx (wVar 9) (wVar 11)) wNil)))))
      (wRet (wC (.bl false)))
      wNext)
def S_law_9_1 : FS :=
  (wPar [12, 13] (wCons (wMeth "Grades" "to_next" φ_Grades_to_next (wVar 7) (wCons (wBin dIx (wVar 9) (wVar 11)) wNil)) (wCons (wMeth "Grades" "over_edge" φ_Grades_over_edge (wVar 7) (wCons (wBin dIx (wVar 9) (wVar 11)) wNil)) wNil)))
def S_law_9_2 : FS :=
  (wSet 14 (wMeth "Grades" "place" φ_Grades_place (wVar 7) (wCons (wMeth "Grades" "grade" φ_Grades_grade (wVar 7) (wCons (wBin dIx (wVar 9) (wVar 11)) wNil)) wNil)))
def S_law_9_3 : FS :=
  (wIfS (wOr (wTest (wBin dNe (wBin dIsN (wVar 12) (wC .non)) (wBin dEq (wVar 14) (wC (.int 0))))) (wTest (wBin dNe (wBin dIsN (wVar 13) (wC .non)) (wBin dEq (wVar 14) (wCall bLen (wCons (wVar 2) wNil))))))
      (wRet (wC (.bl false)))
      wNext)
def S_law_9_4 : FS :=
  (wIfS (wAnd (wTest (wBin dNotN (wVar 12) (wC .non))) (wAnd (wTest (wBin dNotN (wVar 13) (wC .non))) (wTest (wBin dNe (wCall φ_l_add (wCons (wVar 12) (wCons (wVar 13) wNil))) (wCall φ_l_sub (wCons (wBin dIx (wBin dIx (wVar 2) (wBin dSub (wVar 14) (wC (.int 1)))) (wC (.int 1))) (wCons (wBin dIx (wBin dIx (wVar 2) (wVar 14)) (wC (.int 1))) wNil)))))))
      (wRet (wC (.bl false)))
      wNext)
def R_law_9_4 : FS := S_law_9_4
def R_law_9_3 : FS := wSeq S_law_9_3 R_law_9_4
def R_law_9_2 : FS := wSeq S_law_9_2 R_law_9_3
def R_law_9_1 : FS := wSeq S_law_9_1 R_law_9_2
def R_law_9_0 : FS := wSeq S_law_9_0 R_law_9_1
def B_law_9 : FS := R_law_9_0
def S_law_9 : FS :=
  (wFor (.name 11) (wRng1 (wCons (wCall bLen (wCons (wVar 9) wNil)) wNil)) B_law_9)
def S_law_10 : FS :=
  (wAsg (.tup [15, 16]) (wTup (wCons (wMeth "Grades" "counts" φ_Grades_counts (wVar 7) (wCons (wVar 9) wNil)) (wCons (wMeth "Grades" "counts" φ_Grades_counts (wVar 8) (wCons (wVar 9) wNil)) wNil))))
def S_law_11 : FS :=
  (wIfS (wOr (wTest (wBin dNe (wBin dIx (wVar 16) (wVar 3)) (wCall bLen (wCons (wVar 10) wNil)))) (wOr (wTest (wBin dNe (wVar 15) (wBin dAdd (wBin dAdd (wSlice (wVar 16) wNoP (wP (wVar 3))) (wLst (wCons (wBin dAdd (wBin dIx (wVar 16) (wVar 3)) (wBin dIx (wVar 16) (wBin dAdd (wVar 3) (wC (.int 1))))) wNil))) (wSlice (wVar 16) (wP (wBin dAdd (wVar 3) (wC (.int 2)))) wNoP)))) (wTest (wBin dNe (wCall bSum (wCons (wVar 15) wNil)) (wCall bLen (wCons (wVar 9) wNil))))))
      (wRet (wC (.bl false)))
      wNext)
def S_law_12 : FS :=
  (wIfS (wOr (wNot (wTest (wCall φ_l_is (wCons (wMeth "Grades" "at_least" φ_Grades_at_least (wVar 8) (wCons (wVar 9) wNil)) (wCons (wLc (wRng1 (wCons (wCall bLen (wCons (wVar 16) wNil)) wNil)) (.name 11) wYes (wCall bSum (wCons (wSlice (wVar 16) wNoP (wP (wBin dAdd (wVar 11) (wC (.int 1))))) wNil)) [11]) wNil))))) (wNot (wTest (wCall φ_l_is (wCons (wCall φ_regraded (wCons (wVar 7) (wCons (wVar 8) (wCons (wVar 9) wNil)))) (wCons (wVar 10) wNil))))))
      (wRet (wC (.bl false)))
      wNext)
def S_law_13 : FS :=
  (wSet 17 (wCall φ_l_mul (wCons (wCall φ_l_sub (wCons (wVar 6) (wCons (wVar 5) wNil))) (wCons (wTup (wCons (wC (.int 1)) (wCons (wC (.int 2)) wNil))) wNil))))
def S_law_14 : FS :=
  (wSet 18 (wMeth "Grades" "moved" φ_Grades_moved (wVar 8) (wCons (wC (.str "z")) (wCons (wTup (wCons (wBin dSub (wC (.int 0)) (wBin dIx (wVar 17) (wC (.int 0)))) (wCons (wBin dIx (wVar 17) (wC (.int 1))) wNil))) wNil))))
def S_law_15 : FS :=
  (wSet 19 (wMeth "Grades" "moved" φ_Grades_moved (wVar 18) (wCons (wC (.str "z")) (wCons (wVar 17) wNil))))
def S_law_16 : FS :=
  (wRet (wAndV (wCall φ_l_is (wCons (wFld (wVar 19) "Grades" "rows") (wCons (wFld (wVar 8) "Grades" "rows") wNil))) (wAndV (wBin dEq (wMeth "Grades" "names" φ_Grades_names (wVar 18) wNil) (wMeth "Grades" "names" φ_Grades_names (wVar 8) wNil)) (wBin dEq (wBin dIx (wFld (wVar 18) "Grades" "rows") (wVar 3)) (wTup (wCons (wC (.str "z")) (wCons (wCall φ_l_sub (wCons (wVar 6) (wCons (wVar 17) wNil))) wNil)))))))
def R_law_16 : FS := S_law_16
def R_law_15 : FS := wSeq S_law_15 R_law_16
def R_law_14 : FS := wSeq S_law_14 R_law_15
def R_law_13 : FS := wSeq S_law_13 R_law_14
def R_law_12 : FS := wSeq S_law_12 R_law_13
def R_law_11 : FS := wSeq S_law_11 R_law_12
def R_law_10 : FS := wSeq S_law_10 R_law_11
def R_law_9 : FS := wSeq S_law_9 R_law_10
def R_law_8 : FS := wSeq S_law_8 R_law_9
def R_law_7 : FS := wSeq S_law_7 R_law_8
def R_law_6 : FS := wSeq S_law_6 R_law_7
def R_law_5 : FS := wSeq S_law_5 R_law_6
def R_law_4 : FS := wSeq S_law_4 R_law_5
def R_law_3 : FS := wSeq S_law_3 R_law_4
def R_law_2 : FS := wSeq S_law_2 R_law_3
def R_law_1 : FS := wSeq S_law_1 R_law_2
def R_law_0 : FS := wSeq S_law_0 R_law_1
def F_law : FS := R_law_0

end Pl
end

section
set_option linter.all false
set_option maxRecDepth 100000
set_option autoImplicit false
set_option maxHeartbeats 1000000
namespace Pl
open PySem
/-! ### grades cut finer, plainly -/
def zS : Str := "z"
def uS : Str := "u"
structure Ft (pre post : Rws) (f top bot : Rat) : Prop where
  d : Ld (pre ++ post)
  ht : (pre = [] ∧ top = 9) ∨ ∃ p0 q, pre = p0 ++ [q] ∧ top = q.2
  hb : (post = [] ∧ bot = 0) ∨ ∃ q p1, post = q :: p1 ∧ bot = q.2
  hf : ∃ j : Int, 0 ≤ j ∧ j ≤ 1 ∧ f = bot + (top - bot) * Rat.divInt (1 + j) 3
theorem names_ne {n : Str} (h : n ∈ (["x", "y", "w", "v"] : List Str)) : n ≠ zS ∧ n ≠ uS ∧ okStr n = true := by
  simp only [List.mem_cons, List.not_mem_nil, or_false] at h
  rcases h with rfl | rfl | rfl | rfl <;> exact ⟨by simp [zS, ofString_inj], by simp [uS, ofString_inj], okStr_lit _⟩
section
variable {pre post : Rws} {f top bot : Rat}
theorem Ft.bound (F : Ft pre post f top bot) : (∃ i : Int, bot = (i : Rat) ∧ 0 ≤ i ∧ i ≤ 8) ∧ (∃ i : Int, top = (i : Rat) ∧ 1 ≤ i ∧ i ≤ 9) ∧ bot < top := by
  have le := F.d.le
  have ds := F.d.desc
  have a1 : ∃ i : Int, bot = (i : Rat) ∧ 0 ≤ i ∧ i ≤ 8 := by
    rcases F.hb with ⟨_, rfl⟩ | ⟨q, p1, e, rfl⟩
    · exact ⟨0, rfl, by omega, by omega⟩
    · obtain ⟨i, h, h1, h2⟩ := le q (by simp [e])
      exact ⟨i, h, by omega, h2⟩
  have a2 : ∃ i : Int, top = (i : Rat) ∧ 1 ≤ i ∧ i ≤ 9 := by
    rcases F.ht with ⟨_, rfl⟩ | ⟨p0, q, e, rfl⟩
    · exact ⟨9, rfl, by omega, by omega⟩
    · obtain ⟨i, h, h1, h2⟩ := le q (by simp [e])
      exact ⟨i, h, h1, by omega⟩
  refine ⟨a1, a2, ?_⟩
  rcases F.ht with ⟨_, e9⟩ | ⟨p0, q, e, eq⟩
  · obtain ⟨i, h, h1, h2⟩ := a1
    rw [h, e9, show (9 : Rat) = ((9 : Int) : Rat) from rfl, Rat.intCast_lt_intCast]
    omega
  · rcases F.hb with ⟨_, e0⟩ | ⟨q2, p1, e2, eq2⟩
    · obtain ⟨i, h, h1, h2⟩ := a2
      rw [h, e0, show (0 : Rat) = ((0 : Int) : Rat) from rfl, Rat.intCast_lt_intCast]
      omega
    · rw [e, e2, List.pairwise_append] at ds
      have := ds.2.2 q (by simp) q2 (by simp)
      rw [eq, eq2]; exact this
theorem Ft.mid (F : Ft pre post f top bot) : bot < f ∧ f < top := by
  obtain ⟨_, _, lt⟩ := F.bound
  obtain ⟨j, j0, j1, rfl⟩ := F.hf
  have d : 0 < top - bot := by grind
  rcases (by omega : j = 0 ∨ j = 1) with rfl | rfl
  · have e : Rat.divInt (1 + 0) 3 = 1 / 3 := by rw [Rat.divInt_eq_div]; rfl
    rw [e]
    constructor <;> grind
  · have e : Rat.divInt (1 + 1) 3 = 2 / 3 := by rw [Rat.divInt_eq_div]; rfl
    rw [e]
    constructor <;> grind
theorem Ft.old (F : Ft pre post f top bot) : Gr (pre ++ post) uS where
  few := by have := F.d.few; omega
  nod := by
    unfold nms
    rw [List.nodup_append]
    refine ⟨F.d.nod, by simp, fun a ha b hb e => ?_⟩
    obtain ⟨p, hp, rfl⟩ := List.mem_map.mp ha
    simp only [List.mem_cons, List.not_mem_nil, or_false] at hb
    exact (names_ne (F.d.nam p hp)).2.1 (e.trans hb)
  desc := F.d.desc
  sz := fun p hp => by
    obtain ⟨i, e, h1, h2⟩ := F.d.le p hp
    rw [e]
    exact (Sz.int (n := 5) (by omega) (by omega)).mono (by omega)
  ok := fun n hn => by
    unfold nms at hn
    rw [List.mem_append] at hn
    rcases hn with hn | hn
    · obtain ⟨p, hp, rfl⟩ := List.mem_map.mp hn
      exact (names_ne (F.d.nam p hp)).2.2
    · simp only [List.mem_cons, List.not_mem_nil, or_false] at hn
      subst hn
      exact okStr_lit _
theorem Ft.fsz (F : Ft pre post f top bot) : Sz 20 f := by
  obtain ⟨⟨b, eb, b0, b1⟩, ⟨t, et, t0, t1⟩, _⟩ := F.bound
  obtain ⟨j, j0, j1, rfl⟩ := F.hf
  have s1 : Sz 5 bot := by rw [eb]; exact Sz.int (by omega) (by omega)
  have s2 : Sz 5 top := by rw [et]; exact Sz.int (by omega) (by omega)
  have s3 : Sz 2 (Rat.divInt (1 + j) 3) := divInt_sz (by omega) (by omega) (by omega)
  exact (s1.add ((s2.sub s1).mul s3)).mono (by omega)
/-- a row put in between -/
theorem Ft.any (F : Ft pre post f top bot) {g : Rat} (hg : Sz 300 g) (h1 : bot < g) (h2 : g < top) : Gr (pre ++ (zS, g) :: post) uS where
  few := by have := F.d.few; simp at this ⊢; omega
  nod := by
    have o := F.old.nod
    have e : (nms (pre ++ (zS, g) :: post) uS).Perm (zS :: nms (pre ++ post) uS) := by
      unfold nms
      simp only [List.map_append, List.map_cons, List.append_assoc, List.cons_append]
      exact List.perm_middle
    rw [e.nodup_iff, List.nodup_cons]
    refine ⟨fun z => ?_, o⟩
    unfold nms at z
    rw [List.mem_append] at z
    rcases z with z | z
    · obtain ⟨p, hp, e⟩ := List.mem_map.mp z
      exact (names_ne (F.d.nam p hp)).1 e
    · simp [zS, uS, ofString_inj] at z
  desc := by
    have ds := F.d.desc
    rw [List.pairwise_append] at ds ⊢
    obtain ⟨d1, d2, d3⟩ := ds
    refine ⟨d1, List.pairwise_cons.mpr ⟨fun q hq => ?_, d2⟩, fun p hp q hq => ?_⟩
    · rcases F.hb with ⟨e, _⟩ | ⟨q2, p1, e, eb⟩
      · rw [e] at hq; cases hq
      · show q.2 < g
        rw [e, List.mem_cons] at hq
        rcases hq with rfl | hq
        · rw [← eb]; exact h1
        · rw [e] at d2
          have := (List.pairwise_cons.mp d2).1 q hq
          rw [← eb] at this
          grind
    · rw [List.mem_cons] at hq
      rcases hq with rfl | hq
      · show g < p.2
        rcases F.ht with ⟨e, _⟩ | ⟨p0, q2, e, et⟩
        · rw [e] at hp; cases hp
        · rw [e, List.mem_append] at hp
          rcases hp with hp | hp
          · rw [e, List.pairwise_append] at d1
            have := d1.2.2 p hp q2 (by simp)
            rw [← et] at this
            grind
          · simp only [List.mem_cons, List.not_mem_nil, or_false] at hp
            subst hp
            rw [← et]; exact h2
      · exact d3 p hp q hq
  sz := fun p hp => by
    rw [List.mem_append, List.mem_cons] at hp
    rcases hp with hp | rfl | hp
    · exact F.old.sz p (by simp [hp])
    · exact hg
    · exact F.old.sz p (by simp [hp])
  ok := fun n hn => by
    by_cases e : n = zS
    · subst e; exact okStr_lit _
    · refine F.old.ok n ?_
      unfold nms at hn ⊢
      simp only [List.map_append, List.map_cons, List.mem_append, List.mem_cons] at hn ⊢
      rcases hn with (h | h | h) | h
      · exact .inl (.inl h)
      · exact absurd h e
      · exact .inl (.inr h)
      · exact .inr h
theorem Ft.new (F : Ft pre post f top bot) : Gr (pre ++ (zS, f) :: post) uS := F.any (F.fsz.mono (by omega)) F.mid.1 F.mid.2
end
theorem gd_app (last : Str) (a : Rat) (rest : Rws) : ∀ pre : Rws, gdR (pre ++ rest) last a = if ∀ p ∈ pre, a < p.2 then gdR rest last a else gdR pre last a
  | [] => by simp
  | p :: pre => by
    rw [List.cons_append, gdR_cons, gd_app last a rest pre, gdR_cons]
    by_cases c : a < p.2
    · rw [if_pos c, if_pos c]
      by_cases c2 : ∀ q ∈ pre, a < q.2
      · rw [if_pos c2, if_pos fun q hq => (List.mem_cons.mp hq).elim (fun e => e ▸ c) (c2 q)]
      · rw [if_neg c2, if_neg fun z => c2 fun q hq => z q (List.mem_cons_of_mem _ hq)]
    · rw [if_neg c, if_neg (fun z => c (z p List.mem_cons_self)), if_neg c]
section
variable {pre post : Rws} {f top bot : Rat}
def insd (pre : Rws) (f top a : Rat) : Bool := !decide (a < f) && (decide (pre = []) || decide (a < top))
theorem Ft.above (F : Ft pre post f top bot) (a : Rat) : (∀ p ∈ pre, a < p.2) ↔ (pre = [] ∨ a < top) := by
  rcases F.ht with ⟨e, _⟩ | ⟨p0, q, e, et⟩
  · subst e; simp
  · have ds := F.d.desc
    constructor
    · intro h
      refine .inr ?_
      rw [et]
      exact h q (by simp [e])
    · rintro (h | h) p hp
      · rw [h] at hp; cases hp
      · rw [e, List.mem_append] at hp
        rw [et] at h
        rcases hp with hp | hp
        · rw [e, List.append_assoc, List.pairwise_append] at ds
          have := ds.2.2 p hp q (by simp)
          grind
        · simp only [List.mem_cons, List.not_mem_nil, or_false] at hp
          subst hp; exact h
theorem Ft.insd_iff (F : Ft pre post f top bot) (a : Rat) : insd pre f top a = true ↔ (∀ p ∈ pre, a < p.2) ∧ ¬ a < f := by
  rw [F.above a]
  unfold insd
  simp only [Bool.and_eq_true, Bool.or_eq_true, Bool.not_eq_true', decide_eq_true_eq, decide_eq_false_iff_not]
  exact And.comm
def headN (post : Rws) : Str := (post.head?.map (·.1)).getD uS
theorem Ft.in_ (F : Ft pre post f top bot) {a : Rat} (h : insd pre f top a = true) : gdR (pre ++ (zS, f) :: post) uS a = zS ∧ gdR (pre ++ post) uS a = headN post := by
  obtain ⟨h1, h2⟩ := (F.insd_iff a).mp h
  rw [gd_app, gd_app, if_pos h1, if_pos h1, gdR_cons, if_neg h2]
  refine ⟨rfl, ?_⟩
  rcases F.hb with ⟨e, _⟩ | ⟨q, p1, e, eb⟩
  · subst e; rfl
  · subst e
    have := F.mid.1
    rw [gdR_cons, if_neg (by rw [← eb]; grind)]
    rfl
theorem Ft.out (F : Ft pre post f top bot) {a : Rat} (h : insd pre f top a = false) : gdR (pre ++ (zS, f) :: post) uS a = gdR (pre ++ post) uS a := by
  rw [gd_app, gd_app]
  by_cases c : ∀ p ∈ pre, a < p.2
  · rw [if_pos c, if_pos c, gdR_cons]
    by_cases c2 : a < f
    · rw [if_pos c2]
    · have := (F.insd_iff a).mpr ⟨c, c2⟩
      rw [this] at h; cases h
  · rw [if_neg c, if_neg c]
theorem Ft.noz (F : Ft pre post f top bot) : zS ∉ nms (pre ++ post) uS := fun z => by
  unfold nms at z
  rw [List.mem_append] at z
  rcases z with z | z
  · obtain ⟨p, hp, e⟩ := List.mem_map.mp z
    exact (names_ne (F.d.nam p hp)).1 e
  · simp [zS, uS, ofString_inj] at z
theorem gd_mem' (rows : Rws) (last : Str) (a : Rat) : gdR rows last a ∈ nms rows last := List.mem_of_getElem? (plc_name rows last a)
theorem Ft.old_ne (F : Ft pre post f top bot) (a : Rat) : gdR (pre ++ post) uS a ≠ zS := fun z => F.noz (z ▸ gd_mem' _ _ a)
end

end Pl
end

section
set_option linter.all false
set_option maxRecDepth 100000
set_option autoImplicit false
set_option maxHeartbeats 1000000
namespace Pl
open PySem
/-! ### counting -/
def atP (p : Rat → Bool) (ms : List Rat) (i : Nat) : Bool := match ms[i]? with
  | some a => p a
  | none => false
theorem range_count (p : Rat → Bool) (ms : List Rat) : ((List.range ms.length).filter (atP p ms)).length = ms.countP p := by
  have key : ∀ (ms : List Rat), (List.range ms.length).countP (atP p ms) = ms.countP p := by
    intro ms
    induction ms with
    | nil => rfl
    | cons a ms ih =>
      rw [List.length_cons, List.range_succ_eq_map, List.countP_cons, List.countP_map, List.countP_cons]
      have e : (atP p (a :: ms) ∘ Nat.succ) = atP p ms := by funext i; simp [atP]
      rw [e, ih]
      simp [atP]
  rw [← List.countP_eq_length_filter, key]
theorem sum_ones (ns : List Str) (g : Str) (nd : ns.Nodup) (c : Str → Nat) : (ns.map fun n => c n + if n = g then 1 else 0).sum = (ns.map c).sum + if g ∈ ns then 1 else 0 := by
  induction ns with
  | nil => simp
  | cons n ns ih =>
    rw [List.nodup_cons] at nd
    simp only [List.map_cons, List.sum_cons, ih nd.2]
    by_cases e : n = g
    · subst e
      simp [nd.1]
      omega
    · have e' : ¬ g = n := fun z => e z.symm
      by_cases m : g ∈ ns <;> simp [e, e', m] <;> omega
theorem sum_counts (ns : List Str) (nd : ns.Nodup) : ∀ L : List Str, (∀ x ∈ L, x ∈ ns) → (ns.map fun n => L.count n).sum = L.length
  | [], _ => by
    have : ∀ ns : List Str, (ns.map fun n => ([] : List Str).count n).sum = 0 := fun ns => by
      induction ns with
      | nil => rfl
      | cons n ns ih => simpa using ih
    rw [this]; rfl
  | g :: L, h => by
    have e : (ns.map fun n => (g :: L).count n) = ns.map fun n => L.count n + if n = g then 1 else 0 := List.map_congr_left fun n _ => by
      rw [List.count_cons]
      by_cases c : n = g
      · subst c; simp
      · have c' : ¬ g = n := fun z => c z.symm
        simp [c, c']
    rw [e, sum_ones ns g nd, sum_counts ns nd L fun x hx => h x (List.mem_cons_of_mem _ hx), if_pos (h g List.mem_cons_self)]
    simp
theorem cnts_sum {rows : Rws} {last : Str} (G : Gr rows last) (ms : List Rat) : (cnts rows last ms).sum = ms.length := by
  unfold cnts
  rw [sum_counts _ G.nod _ fun x hx => ?_, List.length_map]
  obtain ⟨a, _, rfl⟩ := List.mem_map.mp hx
  exact gd_mem' rows last a
section
variable {pre post : Rws} {f top bot : Rat}
theorem Ft.cz (F : Ft pre post f top bot) (ms : List Rat) : (ms.map (gdR (pre ++ (zS, f) :: post) uS)).count zS = ms.countP (insd pre f top) := by
  rw [List.count_eq_countP, List.countP_map]
  refine List.countP_congr fun a _ => ?_
  show (gdR (pre ++ (zS, f) :: post) uS a == zS) = true ↔ _
  rw [beq_iff_eq]
  cases h : insd pre f top a with
  | true => simp [(F.in_ h).1]
  | false =>
    have := F.old_ne a
    rw [F.out h]
    simp [this]
theorem Ft.cn (F : Ft pre post f top bot) {n : Str} (h1 : n ≠ zS) (h2 : n ≠ headN post) (ms : List Rat) : (ms.map (gdR (pre ++ (zS, f) :: post) uS)).count n = (ms.map (gdR (pre ++ post) uS)).count n := by
  rw [List.count_eq_countP, List.count_eq_countP, List.countP_map, List.countP_map]
  refine List.countP_congr fun a _ => ?_
  show (gdR (pre ++ (zS, f) :: post) uS a == n) = true ↔ (gdR (pre ++ post) uS a == n) = true
  rw [beq_iff_eq, beq_iff_eq]
  cases h : insd pre f top a with
  | true =>
    obtain ⟨e1, e2⟩ := F.in_ h
    rw [e1, e2]
    exact ⟨fun z => absurd z.symm h1, fun z => absurd z.symm h2⟩
  | false => rw [F.out h]
theorem Ft.ch (F : Ft pre post f top bot) (ms : List Rat) : (ms.map (gdR (pre ++ post) uS)).count (headN post) = ms.countP (insd pre f top) + (ms.map (gdR (pre ++ (zS, f) :: post) uS)).count (headN post) := by
  have hz : headN post ≠ zS := by
    have : headN post ∈ nms (pre ++ post) uS := by
      unfold headN nms
      cases post with
      | nil => simp
      | cons q p1 => simp
    exact fun z => F.noz (z ▸ this)
  induction ms with
  | nil => rfl
  | cons a ms ih =>
    rw [List.map_cons, List.map_cons, List.count_cons, List.count_cons, List.countP_cons, ih]
    cases h : insd pre f top a with
    | true =>
      obtain ⟨e1, e2⟩ := F.in_ h
      have : ¬ zS = headN post := fun z => hz z.symm
      rw [e1, e2]
      simp [this]
      omega
    | false =>
      rw [F.out h]
      simp
      omega
/-- the counts of both -/
theorem Ft.counts (F : Ft pre post f top bot) (ms : List Rat) : ∃ A T c0, A.length = pre.length ∧ T.length + 1 = post.length + 1 ∧ cnts (pre ++ (zS, f) :: post) uS ms = A ++ ms.countP (insd pre f top) :: c0 :: T ∧ cnts (pre ++ post) uS ms = A ++ (ms.countP (insd pre f top) + c0) :: T := by
  have o := F.old.nod
  have nz := F.noz
  obtain ⟨tl, et⟩ : ∃ tl, post.map (·.1) ++ [uS] = headN post :: tl := by
    cases post with
    | nil => exact ⟨[], rfl⟩
    | cons q p1 => exact ⟨p1.map (·.1) ++ [uS], rfl⟩
  have e0 : nms (pre ++ post) uS = pre.map (·.1) ++ headN post :: tl := by unfold nms; rw [List.map_append, List.append_assoc, et]
  have e1 : nms (pre ++ (zS, f) :: post) uS = pre.map (·.1) ++ zS :: headN post :: tl := by unfold nms; rw [List.map_append, List.append_assoc, List.map_cons, List.cons_append, et]
  rw [e0] at o nz
  rw [List.nodup_append] at o
  obtain ⟨o1, o2, o3⟩ := o
  rw [List.nodup_cons] at o2
  have tlen : tl.length = post.length := by have := congrArg List.length et; simp at this; omega
  refine ⟨(pre.map (·.1)).map fun n => (ms.map (gdR (pre ++ post) uS)).count n, tl.map fun n => (ms.map (gdR (pre ++ post) uS)).count n, (ms.map (gdR (pre ++ (zS, f) :: post) uS)).count (headN post), by simp, by simp [tlen], ?_, ?_⟩
  · unfold cnts
    rw [e1, List.map_append, List.map_cons, List.map_cons, F.cz]
    congr 1
    · refine List.map_congr_left fun n hn => F.cn (fun z => nz (by rw [List.mem_append]; exact .inl (z ▸ hn))) (fun z => o3 n hn n (by rw [z]; exact List.mem_cons_self) rfl) ms
    · congr 2
      refine List.map_congr_left fun n hn => F.cn (fun z => nz (by rw [List.mem_append]; exact .inr (z ▸ List.mem_cons_of_mem _ hn))) (fun z => o2.1 (z ▸ hn)) ms
  · unfold cnts
    rw [e0, List.map_append, List.map_cons, F.ch]
theorem Ft.regd (F : Ft pre post f top bot) (ms : List Rat) : regr (pre ++ post) (pre ++ (zS, f) :: post) uS uS ms = (List.range ms.length).filter (atP (insd pre f top) ms) := by
  unfold Pl.regr
  refine List.filter_congr fun i _ => ?_
  unfold atP
  cases ms[i]? with
  | none => rfl
  | some a =>
    show (!decide (gdR (pre ++ post) uS a = gdR (pre ++ (zS, f) :: post) uS a)) = insd pre f top a
    cases h : insd pre f top a with
    | true =>
      have := F.old_ne a
      rw [(F.in_ h).1]
      simp [this]
    | false => rw [F.out h]; simp
end
theorem sumsF_eq : ∀ (l : List Nat) (s : Nat), sumsF s l = (List.range l.length).map fun n => s + (l.take (n + 1)).sum
  | [], _ => rfl
  | a :: l, s => by
    rw [List.length_cons, List.range_succ_eq_map, List.map_cons, List.map_map]
    show (a + s) :: sumsF (a + s) l = _
    rw [sumsF_eq l (a + s)]
    congr 1
    · simp; omega
    · refine List.map_congr_left fun n _ => ?_
      simp
      omega
theorem sums_eq (l : List Nat) : sumsF 0 l = (List.range l.length).map fun n => (l.take (n + 1)).sum := by
  rw [sumsF_eq]
  refine List.map_congr_left fun n _ => by omega
theorem next_edge (rows : Rws) (a : Rat) : (nextR rows a = .non ∧ plc rows a = 0) ∨ (∃ p, plc rows a ≠ 0 ∧ rows[plc rows a - 1]? = some p ∧ nextR rows a = fr (p.2 - a)) := by
  have le := plc_le rows a
  by_cases c : plc rows a = 0
  · exact .inl ⟨by unfold nextR; rw [if_pos c], c⟩
  · refine .inr ⟨rows[plc rows a - 1]'(by omega), c, List.getElem?_eq_getElem (by omega), ?_⟩
    unfold nextR
    rw [if_neg c, List.getElem?_eq_getElem (by omega)]
theorem edge_edge (rows : Rws) (a : Rat) : (edgeR rows a = .non ∧ plc rows a = rows.length) ∨ (∃ p, plc rows a ≠ rows.length ∧ rows[plc rows a]? = some p ∧ edgeR rows a = fr (a - p.2)) := by
  have le := plc_le rows a
  by_cases c : plc rows a = rows.length
  · refine .inl ⟨?_, c⟩
    unfold edgeR
    rw [List.getElem?_eq_none (by omega)]
  · refine .inr ⟨rows[plc rows a]'(by omega), c, List.getElem?_eq_getElem (by omega), ?_⟩
    unfold edgeR
    rw [List.getElem?_eq_getElem (by omega)]

end Pl
end

section
set_option linter.all false
set_option maxRecDepth 100000
set_option autoImplicit false
set_option maxHeartbeats 1000000
namespace Pl
open PySem
/-! ### statements 0 .. 8 -/
def tpR (pre : Rws) : Rat := match pre.getLast? with
  | some q => q.2
  | none => 9
def btR (post : Rws) : Rat := match post.head? with
  | some q => q.2
  | none => 0
theorem tp_or (pre : Rws) : (pre = [] ∧ tpR pre = 9) ∨ ∃ p0 q, pre = p0 ++ [q] ∧ tpR pre = q.2 := by
  rcases List.eq_nil_or_concat pre with rfl | ⟨p0, q, rfl⟩
  · exact .inl ⟨rfl, rfl⟩
  · exact .inr ⟨p0, q, by simp, by simp [tpR]⟩
theorem bt_or (post : Rws) : (post = [] ∧ btR post = 0) ∨ ∃ q p1, post = q :: p1 ∧ btR post = q.2 := by
  cases post with
  | nil => exact .inl ⟨rfl, rfl⟩
  | cons q p1 => exact .inr ⟨q, p1, rfl, rfl⟩
theorem zero_fr41 : D.tup [.int 0, .int 1] = fr 0 := rfl
theorem nine_fr : D.tup [.int 9, .int 1] = fr 9 := rfl
theorem st_0 (A : AEnds) {s0 s2 s3 : Slot} {es : List Slot} (h : ∀ rows, Ld rows → A.nx (s0 :: .val .tape :: .val (.lst (rows.map gr)) :: .val (.int 0) :: es)) : S_law_0 A (s0 :: .val .tape :: s2 :: s3 :: es) := by
  simp only [S_law_0, wPar, wCons, wNil, wCall, wTup, wC, wVar, List.getElem?_cons_zero, List.getElem?_cons_succ, List.set_cons_zero, List.set_cons_succ, List.map_cons, List.map_nil, List.cons_append, List.nil_append, List.length_cons, List.length_nil, List.replicate, Option.some.injEq, Slot.val.injEq, Slot.own.injEq, D.lst.injEq, exists_eq_left', exists_eq_left, exists_eq', true_and, and_true, Nat.reduceAdd, Nat.reduceSub, Nat.reduceLeDiff, Bool.false_eq_true, if_true, if_false, ↓reduceIte, Int.reduceMul, Int.reduceAdd, Int.reduceSub, Int.reduceNeg, Int.reduceLT, Int.reduceLE, Int.reduceEq, Nat.reduceMul, Nat.reduceLT, String.reduceEq, String.reduceNe, Int.reduceToNat, reduceCtorEq, Bool.not_true, Bool.not_false, Bool.true_or, Bool.or_true, Bool.false_or, Bool.or_false, Bool.true_and, Bool.and_true, Bool.false_and, Bool.and_false, Bool.not_eq_true', decide_eq_true_eq, decide_eq_false_iff_not, not_true_eq_false, not_false_eq_true, cl_l_ladder, bList, setAll]
  intro rows hr
  exact h rows hr
theorem st_1 (A : AEnds) {s0 s3 : Slot} {es : List Slot} {rows : Rws} (d : Ld rows) (h : ∀ pre post : Rws, rows = pre ++ post → A.nx (s0 :: .val .tape :: .val (.lst ((pre ++ post).map gr)) :: .val (.int (pre.length : Nat)) :: es)) : S_law_1 A (s0 :: .val .tape :: .val (.lst (rows.map gr)) :: s3 :: es) := by
  have few := d.few
  simp only [S_law_1, wSeq, wNext, wSet, wSetO, wAsg, wFrz, wRet, wRetN, wDrop, wIfS, wNever, wVar, wOwn, wC, wBin, wUn, wNil, wCons, wTup, wLst, wCall, dBool, wAndV, wOrV, wNotV, wIf, wChain, wTest, wAnd, wOr, wNot, wBind, bindT, setAll, wPar, wAug, wMut, wMutSet, wPut, mAppend, mExtend, wItems, wFor, wBreak, wCont, wWhile, wLc, wipeE, wSlice, wNoP, wP, startE, AEnds.law, AEnds.fn, wSetF, wFld, startI, AEnds.ini, wDict, dGet, kLook, keyD, wRng1, wRng2, wRngDown, wZip, wEnum, wRev, wPar3O, wListZip, wSliceT, wLenSet, wLm, mInsert, List.getElem?_cons_zero, List.getElem?_cons_succ, List.set_cons_zero, List.set_cons_succ, List.map_cons, List.map_nil, List.cons_append, List.nil_append, List.length_cons, List.length_nil, List.replicate, Option.some.injEq, Slot.val.injEq, Slot.own.injEq, D.lst.injEq, exists_eq_left', exists_eq_left, exists_eq', true_and, and_true, Nat.reduceAdd, Nat.reduceSub, Nat.reduceLeDiff, Bool.false_eq_true, if_true, if_false, ↓reduceIte, Int.reduceMul, Int.reduceAdd, Int.reduceSub, Int.reduceNeg, Int.reduceLT, Int.reduceLE, Int.reduceEq, Nat.reduceMul, Nat.reduceLT, String.reduceEq, String.reduceNe, Int.reduceToNat, reduceCtorEq, Bool.not_true, Bool.not_false, Bool.true_or, Bool.or_true, Bool.false_or, Bool.or_false, Bool.true_and, Bool.and_true, Bool.false_and, Bool.and_false, Bool.not_eq_true', decide_eq_true_eq, decide_eq_false_iff_not, not_true_eq_false, not_false_eq_true, dIn, dNotIn, flatD, List.all_cons, List.all_nil, List.any_cons, List.any_nil, dInt2, dSub, dFdiv, dMod, dLt, dLe, dGt, dGe, dPow, dNeg, dAdd, dMul, dEq, dNe, dIsN, dNotN, isNon_non, isNon_bl, isNon_int, isNon_str, isNon_tup, isNon_lst, isNon_fr, deq_non_non, deq_non_bl, deq_non_int, deq_non_str, deq_non_tup, deq_non_lst, deq_bl_non, deq_bl_bl, deq_bl_str, deq_bl_tup, deq_bl_lst, deq_int_non, deq_int_int, deq_int_str, deq_int_tup, deq_int_lst, deq_str_non, deq_str_bl, deq_str_int, deq_str_str, deq_str_tup, deq_str_lst, deq_tup_non, deq_tup_bl, deq_tup_int, deq_tup_str, deq_tup_tup, deq_tup_lst, deq_lst_non, deq_lst_bl, deq_lst_int, deq_lst_str, deq_lst_tup, deq_lst_lst, deqs_nil, deqs_cons, deqs_nil_cons, deqs_cons_nil, deq_fr_non, deq_non_fr, plain_non, plain_bl, plain_int, plain_lit, plains_nil, plains_cons, plain_lst20, plain_tup20, plain_lst19, plain_tup19, plain_tup18, plain_fr19, plain_fr18, deqs_frs, plains_frs19, decide_true, decide_false, ix0, ix1, deq_fr, plain_fr20, fr_def, fr_neg, fr_neg', okStr_lit, beq_lit, bAbs, bMax2, bMin2, bInt, bGcd, bList, bTuple, ofString_inj, bLen, List.length_map, cl_l_draw]
  refine ⟨by omega, fun k k0 k1 => ?_⟩
  have := h (rows.take k.toNat) (rows.drop k.toNat) (List.take_append_drop _ _).symm
  rw [List.take_append_drop, List.length_take, show min k.toNat rows.length = k.toNat by omega, show ((k.toNat : Nat) : Int) = k by omega] at this
  exact this
theorem st_2 (A : AEnds) {s0 s1 s4 : Slot} {es : List Slot} {pre post : Rws} (h : A.nx (s0 :: s1 :: .val (.lst ((pre ++ post).map gr)) :: .val (.int (pre.length : Nat)) :: .val (fr (tpR pre)) :: es)) : S_law_2 A (s0 :: s1 :: .val (.lst ((pre ++ post).map gr)) :: .val (.int (pre.length : Nat)) :: s4 :: es) := by
  rcases tp_or pre with ⟨rfl, e⟩ | ⟨p0, q, rfl, e⟩
  · rw [e] at h
    simp only [S_law_2, wSeq, wNext, wSet, wSetO, wAsg, wFrz, wRet, wRetN, wDrop, wIfS, wNever, wVar, wOwn, wC, wBin, wUn, wNil, wCons, wTup, wLst, wCall, dBool, wAndV, wOrV, wNotV, wIf, wChain, wTest, wAnd, wOr, wNot, wBind, bindT, setAll, wPar, wAug, wMut, wMutSet, wPut, mAppend, mExtend, wItems, wFor, wBreak, wCont, wWhile, wLc, wipeE, wSlice, wNoP, wP, startE, AEnds.law, AEnds.fn, wSetF, wFld, startI, AEnds.ini, wDict, dGet, kLook, keyD, wRng1, wRng2, wRngDown, wZip, wEnum, wRev, wPar3O, wListZip, wSliceT, wLenSet, wLm, mInsert, List.getElem?_cons_zero, List.getElem?_cons_succ, List.set_cons_zero, List.set_cons_succ, List.map_cons, List.map_nil, List.cons_append, List.nil_append, List.length_cons, List.length_nil, List.replicate, Option.some.injEq, Slot.val.injEq, Slot.own.injEq, D.lst.injEq, exists_eq_left', exists_eq_left, exists_eq', true_and, and_true, Nat.reduceAdd, Nat.reduceSub, Nat.reduceLeDiff, Bool.false_eq_true, if_true, if_false, ↓reduceIte, Int.reduceMul, Int.reduceAdd, Int.reduceSub, Int.reduceNeg, Int.reduceLT, Int.reduceLE, Int.reduceEq, Nat.reduceMul, Nat.reduceLT, String.reduceEq, String.reduceNe, Int.reduceToNat, reduceCtorEq, Bool.not_true, Bool.not_false, Bool.true_or, Bool.or_true, Bool.false_or, Bool.or_false, Bool.true_and, Bool.and_true, Bool.false_and, Bool.and_false, Bool.not_eq_true', decide_eq_true_eq, decide_eq_false_iff_not, not_true_eq_false, not_false_eq_true, dIn, dNotIn, flatD, List.all_cons, List.all_nil, List.any_cons, List.any_nil, dInt2, dSub, dFdiv, dMod, dLt, dLe, dGt, dGe, dPow, dNeg, dAdd, dMul, dEq, dNe, dIsN, dNotN, isNon_non, isNon_bl, isNon_int, isNon_str, isNon_tup, isNon_lst, isNon_fr, deq_non_non, deq_non_bl, deq_non_int, deq_non_str, deq_non_tup, deq_non_lst, deq_bl_non, deq_bl_bl, deq_bl_str, deq_bl_tup, deq_bl_lst, deq_int_non, deq_int_int, deq_int_str, deq_int_tup, deq_int_lst, deq_str_non, deq_str_bl, deq_str_int, deq_str_str, deq_str_tup, deq_str_lst, deq_tup_non, deq_tup_bl, deq_tup_int, deq_tup_str, deq_tup_tup, deq_tup_lst, deq_lst_non, deq_lst_bl, deq_lst_int, deq_lst_str, deq_lst_tup, deq_lst_lst, deqs_nil, deqs_cons, deqs_nil_cons, deqs_cons_nil, deq_fr_non, deq_non_fr, plain_non, plain_bl, plain_int, plain_lit, plains_nil, plains_cons, plain_lst20, plain_tup20, plain_lst19, plain_tup19, plain_tup18, plain_fr19, plain_fr18, deqs_frs, plains_frs19, decide_true, decide_false, ix0, ix1, deq_fr, plain_fr20, fr_def, fr_neg, fr_neg', okStr_lit, beq_lit, bLen, bAbs, bMax2, bMin2, bInt, bGcd, bList, bTuple, ofString_inj, Int.natCast_zero, nine_fr]
    exact h
  · rw [e] at h
    have ne : ¬ (((p0 ++ [q]).length : Nat) : Int) = 0 := by simp; omega
    simp only [S_law_2, wSet, wIf, wTest, wBin, wVar, wC, List.getElem?_cons_zero, List.getElem?_cons_succ, List.set_cons_zero, List.set_cons_succ, List.map_cons, List.map_nil, List.cons_append, List.nil_append, List.length_cons, List.length_nil, List.replicate, Option.some.injEq, Slot.val.injEq, Slot.own.injEq, D.lst.injEq, exists_eq_left', exists_eq_left, exists_eq', true_and, and_true, Nat.reduceAdd, Nat.reduceSub, Nat.reduceLeDiff, Bool.false_eq_true, if_true, if_false, ↓reduceIte, Int.reduceMul, Int.reduceAdd, Int.reduceSub, Int.reduceNeg, Int.reduceLT, Int.reduceLE, Int.reduceEq, Nat.reduceMul, Nat.reduceLT, String.reduceEq, String.reduceNe, Int.reduceToNat, reduceCtorEq, Bool.not_true, Bool.not_false, Bool.true_or, Bool.or_true, Bool.false_or, Bool.or_false, Bool.true_and, Bool.and_true, Bool.false_and, Bool.and_false, Bool.not_eq_true', decide_eq_true_eq, decide_eq_false_iff_not, not_true_eq_false, not_false_eq_true, dIn, dNotIn, flatD, List.all_cons, List.all_nil, List.any_cons, List.any_nil, dInt2, dSub, dFdiv, dMod, dLt, dLe, dGt, dGe, dPow, dNeg, dAdd, dMul, dEq, dNe, dIsN, dNotN, isNon_non, isNon_bl, isNon_int, isNon_str, isNon_tup, isNon_lst, isNon_fr, deq_non_non, deq_non_bl, deq_non_int, deq_non_str, deq_non_tup, deq_non_lst, deq_bl_non, deq_bl_bl, deq_bl_str, deq_bl_tup, deq_bl_lst, deq_int_non, deq_int_int, deq_int_str, deq_int_tup, deq_int_lst, deq_str_non, deq_str_bl, deq_str_int, deq_str_str, deq_str_tup, deq_str_lst, deq_tup_non, deq_tup_bl, deq_tup_int, deq_tup_str, deq_tup_tup, deq_tup_lst, deq_lst_non, deq_lst_bl, deq_lst_int, deq_lst_str, deq_lst_tup, deq_lst_lst, deqs_nil, deqs_cons, deqs_nil_cons, deqs_cons_nil, deq_fr_non, deq_non_fr, plain_non, plain_bl, plain_int, plain_lit, plains_nil, plains_cons, plain_lst20, plain_tup20, plain_lst19, plain_tup19, plain_tup18, plain_fr19, plain_fr18, deqs_frs, plains_frs19, decide_true, decide_false, ix0, ix1, deq_fr, plain_fr20, fr_def, fr_neg, fr_neg', okStr_lit, beq_lit, bAbs, bMax2, bMin2, bInt, bGcd, bList, bTuple, ofString_inj, dBool, ne, decide_false, ix_grL (rows := p0 ++ [q] ++ post) (p := q) _ (show (0 : Int) ≤ (((p0 ++ [q]).length : Nat) : Int) - 1 by simp) (by rw [show ((((p0 ++ [q]).length : Nat) : Int) - 1).toNat = p0.length by simp]; simp), gr1]
    exact h
theorem st_3 (A : AEnds) {s0 s1 s4 s5 : Slot} {es : List Slot} {pre post : Rws} (h : A.nx (s0 :: s1 :: .val (.lst ((pre ++ post).map gr)) :: .val (.int (pre.length : Nat)) :: s4 :: .val (fr (btR post)) :: es)) : S_law_3 A (s0 :: s1 :: .val (.lst ((pre ++ post).map gr)) :: .val (.int (pre.length : Nat)) :: s4 :: s5 :: es) := by
  rcases bt_or post with ⟨rfl, e⟩ | ⟨q, p1, rfl, e⟩
  · rw [e] at h
    have eq : ((pre.length : Nat) : Int) = (((pre ++ []).map gr).length : Nat) := by simp
    simp only [S_law_3, wSet, wIf, wTest, wBin, wVar, wC, wCall, wCons, wNil, wTup, bLen, List.getElem?_cons_zero, List.getElem?_cons_succ, List.set_cons_zero, List.set_cons_succ, List.map_cons, List.map_nil, List.cons_append, List.nil_append, List.length_cons, List.length_nil, List.replicate, Option.some.injEq, Slot.val.injEq, Slot.own.injEq, D.lst.injEq, exists_eq_left', exists_eq_left, exists_eq', true_and, and_true, Nat.reduceAdd, Nat.reduceSub, Nat.reduceLeDiff, Bool.false_eq_true, if_true, if_false, ↓reduceIte, Int.reduceMul, Int.reduceAdd, Int.reduceSub, Int.reduceNeg, Int.reduceLT, Int.reduceLE, Int.reduceEq, Nat.reduceMul, Nat.reduceLT, String.reduceEq, String.reduceNe, Int.reduceToNat, reduceCtorEq, Bool.not_true, Bool.not_false, Bool.true_or, Bool.or_true, Bool.false_or, Bool.or_false, Bool.true_and, Bool.and_true, Bool.false_and, Bool.and_false, Bool.not_eq_true', decide_eq_true_eq, decide_eq_false_iff_not, not_true_eq_false, not_false_eq_true, dIn, dNotIn, flatD, List.all_cons, List.all_nil, List.any_cons, List.any_nil, dInt2, dSub, dFdiv, dMod, dLt, dLe, dGt, dGe, dPow, dNeg, dAdd, dMul, dEq, dNe, dIsN, dNotN, isNon_non, isNon_bl, isNon_int, isNon_str, isNon_tup, isNon_lst, isNon_fr, deq_non_non, deq_non_bl, deq_non_int, deq_non_str, deq_non_tup, deq_non_lst, deq_bl_non, deq_bl_bl, deq_bl_str, deq_bl_tup, deq_bl_lst, deq_int_non, deq_int_int, deq_int_str, deq_int_tup, deq_int_lst, deq_str_non, deq_str_bl, deq_str_int, deq_str_str, deq_str_tup, deq_str_lst, deq_tup_non, deq_tup_bl, deq_tup_int, deq_tup_str, deq_tup_tup, deq_tup_lst, deq_lst_non, deq_lst_bl, deq_lst_int, deq_lst_str, deq_lst_tup, deq_lst_lst, deqs_nil, deqs_cons, deqs_nil_cons, deqs_cons_nil, deq_fr_non, deq_non_fr, plain_non, plain_bl, plain_int, plain_lit, plains_nil, plains_cons, plain_lst20, plain_tup20, plain_lst19, plain_tup19, plain_tup18, plain_fr19, plain_fr18, deqs_frs, plains_frs19, decide_true, decide_false, ix0, ix1, deq_fr, plain_fr20, fr_def, fr_neg, fr_neg', okStr_lit, beq_lit, bAbs, bMax2, bMin2, bInt, bGcd, bList, bTuple, ofString_inj, dBool]
    simp only [← eq, decide_true, List.getElem?_cons_zero, List.getElem?_cons_succ, List.set_cons_zero, List.set_cons_succ, List.map_cons, List.map_nil, List.cons_append, List.nil_append, List.length_cons, List.length_nil, List.replicate, Option.some.injEq, Slot.val.injEq, Slot.own.injEq, D.lst.injEq, exists_eq_left', exists_eq_left, exists_eq', true_and, and_true, Nat.reduceAdd, Nat.reduceSub, Nat.reduceLeDiff, Bool.false_eq_true, if_true, if_false, ↓reduceIte, Int.reduceMul, Int.reduceAdd, Int.reduceSub, Int.reduceNeg, Int.reduceLT, Int.reduceLE, Int.reduceEq, Nat.reduceMul, Nat.reduceLT, String.reduceEq, String.reduceNe, Int.reduceToNat, reduceCtorEq, Bool.not_true, Bool.not_false, Bool.true_or, Bool.or_true, Bool.false_or, Bool.or_false, Bool.true_and, Bool.and_true, Bool.false_and, Bool.and_false, Bool.not_eq_true', decide_eq_true_eq, decide_eq_false_iff_not, not_true_eq_false, not_false_eq_true, zero_fr41]
    exact h
  · rw [e] at h
    have ne : ¬ ((pre.length : Nat) : Int) = (((pre ++ q :: p1).map gr).length : Nat) := by simp; omega
    simp only [S_law_3, wSet, wIf, wTest, wBin, wVar, wC, wCall, wCons, wNil, wTup, bLen, List.getElem?_cons_zero, List.getElem?_cons_succ, List.set_cons_zero, List.set_cons_succ, List.map_cons, List.map_nil, List.cons_append, List.nil_append, List.length_cons, List.length_nil, List.replicate, Option.some.injEq, Slot.val.injEq, Slot.own.injEq, D.lst.injEq, exists_eq_left', exists_eq_left, exists_eq', true_and, and_true, Nat.reduceAdd, Nat.reduceSub, Nat.reduceLeDiff, Bool.false_eq_true, if_true, if_false, ↓reduceIte, Int.reduceMul, Int.reduceAdd, Int.reduceSub, Int.reduceNeg, Int.reduceLT, Int.reduceLE, Int.reduceEq, Nat.reduceMul, Nat.reduceLT, String.reduceEq, String.reduceNe, Int.reduceToNat, reduceCtorEq, Bool.not_true, Bool.not_false, Bool.true_or, Bool.or_true, Bool.false_or, Bool.or_false, Bool.true_and, Bool.and_true, Bool.false_and, Bool.and_false, Bool.not_eq_true', decide_eq_true_eq, decide_eq_false_iff_not, not_true_eq_false, not_false_eq_true, dIn, dNotIn, flatD, List.all_cons, List.all_nil, List.any_cons, List.any_nil, dInt2, dSub, dFdiv, dMod, dLt, dLe, dGt, dGe, dPow, dNeg, dAdd, dMul, dEq, dNe, dIsN, dNotN, isNon_non, isNon_bl, isNon_int, isNon_str, isNon_tup, isNon_lst, isNon_fr, deq_non_non, deq_non_bl, deq_non_int, deq_non_str, deq_non_tup, deq_non_lst, deq_bl_non, deq_bl_bl, deq_bl_str, deq_bl_tup, deq_bl_lst, deq_int_non, deq_int_int, deq_int_str, deq_int_tup, deq_int_lst, deq_str_non, deq_str_bl, deq_str_int, deq_str_str, deq_str_tup, deq_str_lst, deq_tup_non, deq_tup_bl, deq_tup_int, deq_tup_str, deq_tup_tup, deq_tup_lst, deq_lst_non, deq_lst_bl, deq_lst_int, deq_lst_str, deq_lst_tup, deq_lst_lst, deqs_nil, deqs_cons, deqs_nil_cons, deqs_cons_nil, deq_fr_non, deq_non_fr, plain_non, plain_bl, plain_int, plain_lit, plains_nil, plains_cons, plain_lst20, plain_tup20, plain_lst19, plain_tup19, plain_tup18, plain_fr19, plain_fr18, deqs_frs, plains_frs19, decide_true, decide_false, ix0, ix1, deq_fr, plain_fr20, fr_def, fr_neg, fr_neg', okStr_lit, beq_lit, bAbs, bMax2, bMin2, bInt, bGcd, bList, bTuple, ofString_inj, dBool]
    simp only [ne, decide_false, List.getElem?_cons_zero, List.getElem?_cons_succ, List.set_cons_zero, List.set_cons_succ, List.map_cons, List.map_nil, List.cons_append, List.nil_append, List.length_cons, List.length_nil, List.replicate, Option.some.injEq, Slot.val.injEq, Slot.own.injEq, D.lst.injEq, exists_eq_left', exists_eq_left, exists_eq', true_and, and_true, Nat.reduceAdd, Nat.reduceSub, Nat.reduceLeDiff, Bool.false_eq_true, if_true, if_false, ↓reduceIte, Int.reduceMul, Int.reduceAdd, Int.reduceSub, Int.reduceNeg, Int.reduceLT, Int.reduceLE, Int.reduceEq, Nat.reduceMul, Nat.reduceLT, String.reduceEq, String.reduceNe, Int.reduceToNat, reduceCtorEq, Bool.not_true, Bool.not_false, Bool.true_or, Bool.or_true, Bool.false_or, Bool.or_false, Bool.true_and, Bool.and_true, Bool.false_and, Bool.and_false, Bool.not_eq_true', decide_eq_true_eq, decide_eq_false_iff_not, not_true_eq_false, not_false_eq_true, ix_grL (rows := pre ++ q :: p1) (p := q) _ (show (0 : Int) ≤ ((pre.length : Nat) : Int) by omega) (by rw [Int.toNat_natCast]; simp), gr1]
    exact h

end Pl
end

section
set_option linter.all false
set_option maxRecDepth 100000
set_option autoImplicit false
set_option maxHeartbeats 1000000
namespace Pl
open PySem
theorem st_4 (A : AEnds) {s0 s2 s3 s6 : Slot} {es : List Slot} {pre post : Rws} (d : Ld (pre ++ post)) (h : ∀ f, Ft pre post f (tpR pre) (btR post) → A.nx (s0 :: .val .tape :: s2 :: s3 :: .val (fr (tpR pre)) :: .val (fr (btR post)) :: .val (fr f) :: es)) : S_law_4 A (s0 :: .val .tape :: s2 :: s3 :: .val (fr (tpR pre)) :: .val (fr (btR post)) :: s6 :: es) := by
  have F0 : Ft pre post (btR post + (tpR pre - btR post) * Rat.divInt (1 + 0) 3) (tpR pre) (btR post) := ⟨d, tp_or pre, bt_or post, 0, by omega, by omega, rfl⟩
  obtain ⟨⟨b, eb, b0, b1⟩, ⟨t, et, t0, t1⟩, _⟩ := F0.bound
  have s1 : Sz 5 (btR post) := by rw [eb]; exact Sz.int (by omega) (by omega)
  have s2 : Sz 5 (tpR pre) := by rw [et]; exact Sz.int (by omega) (by omega)
  have z := s2.sub s1
  simp only [S_law_4, wSet, wCall, wCons, wNil, wBin, wVar, wC, List.getElem?_cons_zero, List.getElem?_cons_succ, List.set_cons_zero, List.set_cons_succ, List.map_cons, List.map_nil, List.cons_append, List.nil_append, List.length_cons, List.length_nil, List.replicate, Option.some.injEq, Slot.val.injEq, Slot.own.injEq, D.lst.injEq, exists_eq_left', exists_eq_left, exists_eq', true_and, and_true, Nat.reduceAdd, Nat.reduceSub, Nat.reduceLeDiff, Bool.false_eq_true, if_true, if_false, ↓reduceIte, Int.reduceMul, Int.reduceAdd, Int.reduceSub, Int.reduceNeg, Int.reduceLT, Int.reduceLE, Int.reduceEq, Nat.reduceMul, Nat.reduceLT, String.reduceEq, String.reduceNe, Int.reduceToNat, reduceCtorEq, Bool.not_true, Bool.not_false, Bool.true_or, Bool.or_true, Bool.false_or, Bool.or_false, Bool.true_and, Bool.and_true, Bool.false_and, Bool.and_false, Bool.not_eq_true', decide_eq_true_eq, decide_eq_false_iff_not, not_true_eq_false, not_false_eq_true, dAdd, cl_l_draw, cl_l_frac]
  rw [cs_sub (s2.mono (by omega)) (s1.mono (by omega))]
  have p : (2 : Nat) ^ 3 ≤ 2 ^ 4000 := pow_mono (by omega)
  intro j j0 j1
  repeat (refine And.intro (by first | omega | decide) ?_)
  have s3 : Sz 2 (Rat.divInt (1 + j) 3) := divInt_sz (by omega) (by omega) (by omega)
  rw [cs_mul (z.mono (by omega)) (s3.mono (by omega)), cs_add (s1.mono (by omega)) ((z.mul s3).mono (by omega))]
  exact h _ ⟨d, tp_or pre, bt_or post, j, j0, by omega, rfl⟩
section
variable {pre post : Rws} {f top bot : Rat}
theorem st_5 (A : AEnds) {s0 s1 s4 s5 s7 s8 : Slot} {es : List Slot} (F : Ft pre post f top bot) (h : A.nx (s0 :: s1 :: .val (.lst ((pre ++ post).map gr)) :: .val (.int (pre.length : Nat)) :: s4 :: s5 :: .val (fr f) :: .val (grs (pre ++ post) uS) :: .val (grs (pre ++ (zS, f) :: post) uS) :: es)) : S_law_5 A (s0 :: s1 :: .val (.lst ((pre ++ post).map gr)) :: .val (.int (pre.length : Nat)) :: s4 :: s5 :: .val (fr f) :: s7 :: s8 :: es) := by
  have few := F.d.few
  have few' : pre.length + post.length ≤ 4 := by simpa using few
  have e : (List.take pre.length ((pre ++ post).map gr) ++ [.tup [.str zS, fr f]]) ++ List.drop pre.length ((pre ++ post).map gr) = (pre ++ (zS, f) :: post).map gr := by
    rw [← List.map_take, ← List.map_drop, List.take_left, List.drop_left]
    simp [gr]
  have uu : (D.str "u") = D.str uS := rfl
  have zz : (D.str "z") = D.str zS := rfl
  simp only [S_law_5, wSeq, wNext, wSet, wSetO, wAsg, wFrz, wRet, wRetN, wDrop, wIfS, wNever, wVar, wOwn, wC, wBin, wUn, wNil, wCons, wTup, wLst, wCall, dBool, wAndV, wOrV, wNotV, wIf, wChain, wTest, wAnd, wOr, wNot, wBind, bindT, setAll, wPar, wAug, wMut, wMutSet, wPut, mAppend, mExtend, wItems, wFor, wBreak, wCont, wWhile, wLc, wipeE, wSlice, wNoP, wP, startE, AEnds.law, AEnds.fn, wSetF, wFld, startI, AEnds.ini, wDict, dGet, kLook, keyD, wRng1, wRng2, wRngDown, wZip, wEnum, wRev, wPar3O, wListZip, wSliceT, wLenSet, wLm, mInsert, List.getElem?_cons_zero, List.getElem?_cons_succ, List.set_cons_zero, List.set_cons_succ, List.map_cons, List.map_nil, List.cons_append, List.nil_append, List.length_cons, List.length_nil, List.replicate, Option.some.injEq, Slot.val.injEq, Slot.own.injEq, D.lst.injEq, exists_eq_left', exists_eq_left, exists_eq', true_and, and_true, Nat.reduceAdd, Nat.reduceSub, Nat.reduceLeDiff, Bool.false_eq_true, if_true, if_false, ↓reduceIte, Int.reduceMul, Int.reduceAdd, Int.reduceSub, Int.reduceNeg, Int.reduceLT, Int.reduceLE, Int.reduceEq, Nat.reduceMul, Nat.reduceLT, String.reduceEq, String.reduceNe, Int.reduceToNat, reduceCtorEq, Bool.not_true, Bool.not_false, Bool.true_or, Bool.or_true, Bool.false_or, Bool.or_false, Bool.true_and, Bool.and_true, Bool.false_and, Bool.and_false, Bool.not_eq_true', decide_eq_true_eq, decide_eq_false_iff_not, not_true_eq_false, not_false_eq_true, bTuple, dAdd, cutD_to_nat, cutD_from_nat, uu, zz, cl_Grades_init, F.old]
  simp only [List.append_assoc, List.singleton_append, List.cons_append, List.nil_append] at e
  simp only [List.append_assoc, List.singleton_append, List.cons_append, List.nil_append, e, cl_Grades_init, F.new, true_and]
  refine ⟨?_, ?_, h⟩
  · simp only [List.length_take, List.length_map, List.length_append, List.length_cons]; omega
  · simp only [List.length_take, List.length_drop, List.length_map, List.length_append, List.length_cons, List.length_nil]; omega
/-- the marks -/
structure Mk (rows : Rws) (f : Rat) (ms : List Rat) : Prop where
  len : ms.length ≤ 20
  sz : ∀ a ∈ ms, Sz 20 a
theorem rng5 : rngD 0 5 = [.int 0, .int 1, .int 2, .int 3, .int 4] := rfl
theorem drawn_sz {t b : Int} (b1 : 1 ≤ b) (b2 : b ≤ 4) (t0 : 0 ≤ t) (t1 : t ≤ 9 * b) : Sz 20 (Rat.divInt t b) := divInt_sz (by omega) (by omega) (by omega)
theorem st_6 (A : AEnds) {s0 s3 s4 s5 s7 s8 s9 s10 s11 s12 s13 s14 s15 s16 s17 s18 s19 s20 s21 : Slot} (F : Ft pre post f top bot) (h : ∀ ms, Mk (pre ++ post) f ms → A.nx [s0, .val .tape, .val (.lst ((pre ++ post).map gr)), s3, s4, s5, .val (fr f), s7, s8, .val (.lst (ms.map fr)), s10, s11, s12, s13, s14, s15, s16, s17, s18, s19, s20, s21]) :
    S_law_6 A [s0, .val .tape, .val (.lst ((pre ++ post).map gr)), s3, s4, s5, .val (fr f), s7, s8, s9, s10, s11, s12, s13, s14, s15, s16, s17, s18, s19, s20, s21] := by
  have few := F.d.few
  simp only [S_law_6, wSet, wBin, wCall, wCons, wNil, wLc, wRng1, wItems, wC, wipeE, wVar, wLst, List.getElem?_cons_zero, List.getElem?_cons_succ, List.set_cons_zero, List.set_cons_succ, List.map_cons, List.map_nil, List.cons_append, List.nil_append, List.length_cons, List.length_nil, List.replicate, Option.some.injEq, Slot.val.injEq, Slot.own.injEq, D.lst.injEq, exists_eq_left', exists_eq_left, exists_eq', true_and, and_true, Nat.reduceAdd, Nat.reduceSub, Nat.reduceLeDiff, Bool.false_eq_true, if_true, if_false, ↓reduceIte, Int.reduceMul, Int.reduceAdd, Int.reduceSub, Int.reduceNeg, Int.reduceLT, Int.reduceLE, Int.reduceEq, Nat.reduceMul, Nat.reduceLT, String.reduceEq, String.reduceNe, Int.reduceToNat, reduceCtorEq, Bool.not_true, Bool.not_false, Bool.true_or, Bool.or_true, Bool.false_or, Bool.or_false, Bool.true_and, Bool.and_true, Bool.false_and, Bool.and_false, Bool.not_eq_true', decide_eq_true_eq, decide_eq_false_iff_not, not_true_eq_false, not_false_eq_true]
  refine ⟨by omega, ?_⟩
  rw [rng5]
  simp only [wComp, wYes, wBind, bindT, wCall, wCons, wNil, wBin, wVar, wC, cl_l_fraction, List.getElem?_cons_zero, List.getElem?_cons_succ, List.set_cons_zero, List.set_cons_succ, List.map_cons, List.map_nil, List.cons_append, List.nil_append, List.length_cons, List.length_nil, List.replicate, Option.some.injEq, Slot.val.injEq, Slot.own.injEq, D.lst.injEq, exists_eq_left', exists_eq_left, exists_eq', true_and, and_true, Nat.reduceAdd, Nat.reduceSub, Nat.reduceLeDiff, Bool.false_eq_true, if_true, if_false, ↓reduceIte, Int.reduceMul, Int.reduceAdd, Int.reduceSub, Int.reduceNeg, Int.reduceLT, Int.reduceLE, Int.reduceEq, Nat.reduceMul, Nat.reduceLT, String.reduceEq, String.reduceNe, Int.reduceToNat, reduceCtorEq, Bool.not_true, Bool.not_false, Bool.true_or, Bool.or_true, Bool.false_or, Bool.or_false, Bool.true_and, Bool.and_true, Bool.false_and, Bool.and_false, Bool.not_eq_true', decide_eq_true_eq, decide_eq_false_iff_not, not_true_eq_false, not_false_eq_true]
  intro t1 b1 b1a b1b t1a t1b t2 b2 b2a b2b t2a t2b t3 b3 b3a b3b t3a t3b t4 b4 b4a b4b t4a t4b t5 b5 b5a b5b t5a t5b
  simp only [dAdd, List.getElem?_cons_zero, List.getElem?_cons_succ, List.set_cons_zero, List.set_cons_succ, List.map_cons, List.map_nil, List.cons_append, List.nil_append, List.length_cons, List.length_nil, List.replicate, Option.some.injEq, Slot.val.injEq, Slot.own.injEq, D.lst.injEq, exists_eq_left', exists_eq_left, exists_eq', true_and, and_true, Nat.reduceAdd, Nat.reduceSub, Nat.reduceLeDiff, Bool.false_eq_true, if_true, if_false, ↓reduceIte, Int.reduceMul, Int.reduceAdd, Int.reduceSub, Int.reduceNeg, Int.reduceLT, Int.reduceLE, Int.reduceEq, Nat.reduceMul, Nat.reduceLT, String.reduceEq, String.reduceNe, Int.reduceToNat, reduceCtorEq, Bool.not_true, Bool.not_false, Bool.true_or, Bool.or_true, Bool.false_or, Bool.or_false, Bool.true_and, Bool.and_true, Bool.false_and, Bool.and_false, Bool.not_eq_true', decide_eq_true_eq, decide_eq_false_iff_not, not_true_eq_false, not_false_eq_true]
  refine comp_map (k := gr) (g := fun p => fr p.2) (pre ++ post) [] _ (by simp only [List.length_nil]; omega) (fun p hp P pp => ?_) ?_
  · simp only [wSeq, wNext, wSet, wSetO, wAsg, wFrz, wRet, wRetN, wDrop, wIfS, wNever, wVar, wOwn, wC, wBin, wUn, wNil, wCons, wTup, wLst, wCall, dBool, wAndV, wOrV, wNotV, wIf, wChain, wTest, wAnd, wOr, wNot, wBind, bindT, setAll, wPar, wAug, wMut, wMutSet, wPut, mAppend, mExtend, wItems, wFor, wBreak, wCont, wWhile, wLc, wipeE, wSlice, wNoP, wP, startE, AEnds.law, AEnds.fn, wSetF, wFld, startI, AEnds.ini, wDict, dGet, kLook, keyD, wRng1, wRng2, wRngDown, wZip, wEnum, wRev, wPar3O, wListZip, wSliceT, wLenSet, wLm, mInsert, gr, List.getElem?_cons_zero, List.getElem?_cons_succ, List.set_cons_zero, List.set_cons_succ, List.map_cons, List.map_nil, List.cons_append, List.nil_append, List.length_cons, List.length_nil, List.replicate, Option.some.injEq, Slot.val.injEq, Slot.own.injEq, D.lst.injEq, exists_eq_left', exists_eq_left, exists_eq', true_and, and_true, Nat.reduceAdd, Nat.reduceSub, Nat.reduceLeDiff, Bool.false_eq_true, if_true, if_false, ↓reduceIte, Int.reduceMul, Int.reduceAdd, Int.reduceSub, Int.reduceNeg, Int.reduceLT, Int.reduceLE, Int.reduceEq, Nat.reduceMul, Nat.reduceLT, String.reduceEq, String.reduceNe, Int.reduceToNat, reduceCtorEq, Bool.not_true, Bool.not_false, Bool.true_or, Bool.or_true, Bool.false_or, Bool.or_false, Bool.true_and, Bool.and_true, Bool.false_and, Bool.and_false, Bool.not_eq_true', decide_eq_true_eq, decide_eq_false_iff_not, not_true_eq_false, not_false_eq_true] at pp ⊢
    exact pp
  simp only [List.getElem?_cons_zero, List.getElem?_cons_succ, List.set_cons_zero, List.set_cons_succ, List.map_cons, List.map_nil, List.cons_append, List.nil_append, List.length_cons, List.length_nil, List.replicate, Option.some.injEq, Slot.val.injEq, Slot.own.injEq, D.lst.injEq, exists_eq_left', exists_eq_left, exists_eq', true_and, and_true, Nat.reduceAdd, Nat.reduceSub, Nat.reduceLeDiff, Bool.false_eq_true, if_true, if_false, ↓reduceIte, Int.reduceMul, Int.reduceAdd, Int.reduceSub, Int.reduceNeg, Int.reduceLT, Int.reduceLE, Int.reduceEq, Nat.reduceMul, Nat.reduceLT, String.reduceEq, String.reduceNe, Int.reduceToNat, reduceCtorEq, Bool.not_true, Bool.not_false, Bool.true_or, Bool.or_true, Bool.false_or, Bool.or_false, Bool.true_and, Bool.and_true, Bool.false_and, Bool.and_false, Bool.not_eq_true', decide_eq_true_eq, decide_eq_false_iff_not, not_true_eq_false, not_false_eq_true, List.length_map]
  refine ⟨by omega, ?_⟩
  have := h (Rat.divInt t1 b1 :: Rat.divInt t2 b2 :: Rat.divInt t3 b3 :: Rat.divInt t4 b4 :: Rat.divInt t5 b5 :: f :: (pre ++ post).map (·.2)) ⟨by simp only [List.length_cons, List.length_map]; omega, fun a ha => ?_⟩
  · simp only [List.map_cons, List.map_map] at this
    exact this
  · simp only [List.mem_cons] at ha
    rcases ha with rfl | rfl | rfl | rfl | rfl | rfl | ha
    · exact drawn_sz b1a b1b t1a t1b
    · exact drawn_sz b2a b2b t2a t2b
    · exact drawn_sz b3a b3b t3a t3b
    · exact drawn_sz b4a b4b t4a t4b
    · exact drawn_sz b5a b5b t5a t5b
    · exact F.fsz
    · obtain ⟨p, hp, rfl⟩ := List.mem_map.mp ha
      obtain ⟨i, e, h1, h2⟩ := F.d.le p hp
      rw [e]
      exact (Sz.int (n := 5) (by omega) (by omega)).mono (by omega)
theorem ix_ms {ms : List Rat} {i : Nat} (hi : i < ms.length) (Q : D → Prop) : dIx (.lst (ms.map fr)) (.int (i : Nat)) Q = Q (fr ms[i]) := ix_frs Q (by omega) (by rw [Int.toNat_natCast]; exact List.getElem?_eq_getElem hi)
theorem atP_get {p : Rat → Bool} {ms : List Rat} {i : Nat} (hi : i < ms.length) : atP p ms i = p ms[i] := by unfold atP; rw [List.getElem?_eq_getElem hi]
def insL (pre : Rws) (f top : Rat) (ms : List Rat) : List Nat := (List.range ms.length).filter (atP (insd pre f top) ms)
theorem rngD_nat (n : Nat) : rngD 0 n = (List.range n).map natD := by
  unfold rngD
  refine List.map_congr_left fun i _ => ?_
  show D.int (0 + (i : Int)) = D.int (i : Int)
  rw [Int.zero_add]
end

end Pl
end

section
set_option linter.all false
set_option maxRecDepth 100000
set_option autoImplicit false
set_option maxHeartbeats 1000000
namespace Pl
open PySem
section
variable {pre post : Rws} {f top bot : Rat} {ms : List Rat}
theorem Ft.tsz (F : Ft pre post f top bot) : Sz 20 top := by
  obtain ⟨_, ⟨t, et, t0, t1⟩, _⟩ := F.bound
  rw [et]; exact (Sz.int (n := 5) (by omega) (by omega)).mono (by omega)
def in7 (f top : Rat) (a : Rat) : Bool := !decide (a < f) && decide (a < top)
theorem st_7 (A : AEnds) {s0 s1 s2 s3 s5 s7 s8 s10 s11 s12 s13 s14 s15 s16 s17 s18 s19 s20 s21 : Slot} (F : Ft pre post f top bot) (m : Mk (pre ++ post) f ms) (h : A.nx [s0, s1, s2, s3, .val (fr top), s5, .val (fr f), s7, s8, .val (.lst (ms.map fr)), .val (.lst (((List.range ms.length).filter (atP (in7 f top) ms)).map natD)), s11, s12, s13, s14, s15, s16, s17, s18, s19, s20, s21]) :
    S_law_7 A [s0, s1, s2, s3, .val (fr top), s5, .val (fr f), s7, s8, .val (.lst (ms.map fr)), s10, s11, s12, s13, s14, s15, s16, s17, s18, s19, s20, s21] := by
  have len := m.len
  have fz := F.fsz.mono (show 20 ≤ 1900 by omega)
  have tz := F.tsz.mono (show 20 ≤ 1900 by omega)
  simp only [S_law_7, wSet, wLc, wRng1, wCall, wCons, wNil, wVar, wipeE, bLen, List.getElem?_cons_zero, List.getElem?_cons_succ, List.set_cons_zero, List.set_cons_succ, List.map_cons, List.map_nil, List.cons_append, List.nil_append, List.length_cons, List.length_nil, List.replicate, Option.some.injEq, Slot.val.injEq, Slot.own.injEq, D.lst.injEq, exists_eq_left', exists_eq_left, exists_eq', true_and, and_true, Nat.reduceAdd, Nat.reduceSub, Nat.reduceLeDiff, Bool.false_eq_true, if_true, if_false, ↓reduceIte, Int.reduceMul, Int.reduceAdd, Int.reduceSub, Int.reduceNeg, Int.reduceLT, Int.reduceLE, Int.reduceEq, Nat.reduceMul, Nat.reduceLT, String.reduceEq, String.reduceNe, Int.reduceToNat, reduceCtorEq, Bool.not_true, Bool.not_false, Bool.true_or, Bool.or_true, Bool.false_or, Bool.or_false, Bool.true_and, Bool.and_true, Bool.false_and, Bool.and_false, Bool.not_eq_true', decide_eq_true_eq, decide_eq_false_iff_not, not_true_eq_false, not_false_eq_true, List.length_map, Int.toNat_natCast]
  refine ⟨by omega, ?_⟩
  rw [rngD_nat]
  refine comp_filter (k := natD) (g := natD) (p := atP (in7 f top) ms) (List.range ms.length) [] _ (by simp; omega) (fun i hi P pp => ?_) (fun i hi _ P pp e he => ?_) ?_
  · have hi' := List.mem_range.mp hi
    have az := (m.sz _ (List.getElem_mem hi')).mono (show 20 ≤ 1900 by omega)
    rw [atP_get hi'] at pp
    simp only [in7] at pp
    simp only [wSeq, wNext, wSet, wSetO, wAsg, wFrz, wRet, wRetN, wDrop, wIfS, wNever, wVar, wOwn, wC, wBin, wUn, wNil, wCons, wTup, wLst, wCall, dBool, wAndV, wOrV, wNotV, wIf, wChain, wTest, wAnd, wOr, wNot, wBind, bindT, setAll, wPar, wAug, wMut, wMutSet, wPut, mAppend, mExtend, wItems, wFor, wBreak, wCont, wWhile, wLc, wipeE, wSlice, wNoP, wP, startE, AEnds.law, AEnds.fn, wSetF, wFld, startI, AEnds.ini, wDict, dGet, kLook, keyD, wRng1, wRng2, wRngDown, wZip, wEnum, wRev, wPar3O, wListZip, wSliceT, wLenSet, wLm, mInsert, natD, List.getElem?_cons_zero, List.getElem?_cons_succ, List.set_cons_zero, List.set_cons_succ, List.map_cons, List.map_nil, List.cons_append, List.nil_append, List.length_cons, List.length_nil, List.replicate, Option.some.injEq, Slot.val.injEq, Slot.own.injEq, D.lst.injEq, exists_eq_left', exists_eq_left, exists_eq', true_and, and_true, Nat.reduceAdd, Nat.reduceSub, Nat.reduceLeDiff, Bool.false_eq_true, if_true, if_false, ↓reduceIte, Int.reduceMul, Int.reduceAdd, Int.reduceSub, Int.reduceNeg, Int.reduceLT, Int.reduceLE, Int.reduceEq, Nat.reduceMul, Nat.reduceLT, String.reduceEq, String.reduceNe, Int.reduceToNat, reduceCtorEq, Bool.not_true, Bool.not_false, Bool.true_or, Bool.or_true, Bool.false_or, Bool.or_false, Bool.true_and, Bool.and_true, Bool.false_and, Bool.and_false, Bool.not_eq_true', decide_eq_true_eq, decide_eq_false_iff_not, not_true_eq_false, not_false_eq_true, ix_ms hi', cl_l_lt, az, fz, tz] at pp ⊢
    by_cases c : ms[i] < f
    · simp only [c, decide_true, List.getElem?_cons_zero, List.getElem?_cons_succ, List.set_cons_zero, List.set_cons_succ, List.map_cons, List.map_nil, List.cons_append, List.nil_append, List.length_cons, List.length_nil, List.replicate, Option.some.injEq, Slot.val.injEq, Slot.own.injEq, D.lst.injEq, exists_eq_left', exists_eq_left, exists_eq', true_and, and_true, Nat.reduceAdd, Nat.reduceSub, Nat.reduceLeDiff, Bool.false_eq_true, if_true, if_false, ↓reduceIte, Int.reduceMul, Int.reduceAdd, Int.reduceSub, Int.reduceNeg, Int.reduceLT, Int.reduceLE, Int.reduceEq, Nat.reduceMul, Nat.reduceLT, String.reduceEq, String.reduceNe, Int.reduceToNat, reduceCtorEq, Bool.not_true, Bool.not_false, Bool.true_or, Bool.or_true, Bool.false_or, Bool.or_false, Bool.true_and, Bool.and_true, Bool.false_and, Bool.and_false, Bool.not_eq_true', decide_eq_true_eq, decide_eq_false_iff_not, not_true_eq_false, not_false_eq_true] at pp ⊢
      exact pp _ rfl
    · simp only [c, decide_false, List.getElem?_cons_zero, List.getElem?_cons_succ, List.set_cons_zero, List.set_cons_succ, List.map_cons, List.map_nil, List.cons_append, List.nil_append, List.length_cons, List.length_nil, List.replicate, Option.some.injEq, Slot.val.injEq, Slot.own.injEq, D.lst.injEq, exists_eq_left', exists_eq_left, exists_eq', true_and, and_true, Nat.reduceAdd, Nat.reduceSub, Nat.reduceLeDiff, Bool.false_eq_true, if_true, if_false, ↓reduceIte, Int.reduceMul, Int.reduceAdd, Int.reduceSub, Int.reduceNeg, Int.reduceLT, Int.reduceLE, Int.reduceEq, Nat.reduceMul, Nat.reduceLT, String.reduceEq, String.reduceNe, Int.reduceToNat, reduceCtorEq, Bool.not_true, Bool.not_false, Bool.true_or, Bool.or_true, Bool.false_or, Bool.or_false, Bool.true_and, Bool.and_true, Bool.false_and, Bool.and_false, Bool.not_eq_true', decide_eq_true_eq, decide_eq_false_iff_not, not_true_eq_false, not_false_eq_true] at pp ⊢
      exact pp _ rfl
  · simp only [wSeq, wNext, wSet, wSetO, wAsg, wFrz, wRet, wRetN, wDrop, wIfS, wNever, wVar, wOwn, wC, wBin, wUn, wNil, wCons, wTup, wLst, wCall, dBool, wAndV, wOrV, wNotV, wIf, wChain, wTest, wAnd, wOr, wNot, wBind, bindT, setAll, wPar, wAug, wMut, wMutSet, wPut, mAppend, mExtend, wItems, wFor, wBreak, wCont, wWhile, wLc, wipeE, wSlice, wNoP, wP, startE, AEnds.law, AEnds.fn, wSetF, wFld, startI, AEnds.ini, wDict, dGet, kLook, keyD, wRng1, wRng2, wRngDown, wZip, wEnum, wRev, wPar3O, wListZip, wSliceT, wLenSet, wLm, mInsert, natD, List.getElem?_cons_zero, List.getElem?_cons_succ, List.set_cons_zero, List.set_cons_succ, List.map_cons, List.map_nil, List.cons_append, List.nil_append, List.length_cons, List.length_nil, List.replicate, Option.some.injEq, Slot.val.injEq, Slot.own.injEq, D.lst.injEq, exists_eq_left', exists_eq_left, exists_eq', true_and, and_true, Nat.reduceAdd, Nat.reduceSub, Nat.reduceLeDiff, Bool.false_eq_true, if_true, if_false, ↓reduceIte, Int.reduceMul, Int.reduceAdd, Int.reduceSub, Int.reduceNeg, Int.reduceLT, Int.reduceLE, Int.reduceEq, Nat.reduceMul, Nat.reduceLT, String.reduceEq, String.reduceNe, Int.reduceToNat, reduceCtorEq, Bool.not_true, Bool.not_false, Bool.true_or, Bool.or_true, Bool.false_or, Bool.or_false, Bool.true_and, Bool.and_true, Bool.false_and, Bool.and_false, Bool.not_eq_true', decide_eq_true_eq, decide_eq_false_iff_not, not_true_eq_false, not_false_eq_true] at he ⊢
    subst he
    simp only [List.getElem?_cons_zero, List.getElem?_cons_succ, List.set_cons_zero, List.set_cons_succ, List.map_cons, List.map_nil, List.cons_append, List.nil_append, List.length_cons, List.length_nil, List.replicate, Option.some.injEq, Slot.val.injEq, Slot.own.injEq, D.lst.injEq, exists_eq_left', exists_eq_left, exists_eq', true_and, and_true, Nat.reduceAdd, Nat.reduceSub, Nat.reduceLeDiff, Bool.false_eq_true, if_true, if_false, ↓reduceIte, Int.reduceMul, Int.reduceAdd, Int.reduceSub, Int.reduceNeg, Int.reduceLT, Int.reduceLE, Int.reduceEq, Nat.reduceMul, Nat.reduceLT, String.reduceEq, String.reduceNe, Int.reduceToNat, reduceCtorEq, Bool.not_true, Bool.not_false, Bool.true_or, Bool.or_true, Bool.false_or, Bool.or_false, Bool.true_and, Bool.and_true, Bool.false_and, Bool.and_false, Bool.not_eq_true', decide_eq_true_eq, decide_eq_false_iff_not, not_true_eq_false, not_false_eq_true]
    exact pp
  · exact h
theorem st_8 (A : AEnds) {s0 s1 s2 s4 s5 s7 s8 s11 s12 s13 s14 s15 s16 s17 s18 s19 s20 s21 : Slot} (F : Ft pre post f top bot) (m : Mk (pre ++ post) f ms) (h : A.nx [s0, s1, s2, .val (.int (pre.length : Nat)), s4, s5, .val (fr f), s7, s8, .val (.lst (ms.map fr)), .val (.lst ((insL pre f top ms).map natD)), s11, s12, s13, s14, s15, s16, s17, s18, s19, s20, s21]) :
    S_law_8 A [s0, s1, s2, .val (.int (pre.length : Nat)), s4, s5, .val (fr f), s7, s8, .val (.lst (ms.map fr)), .val (.lst (((List.range ms.length).filter (atP (in7 f top) ms)).map natD)), s11, s12, s13, s14, s15, s16, s17, s18, s19, s20, s21] := by
  have len := m.len
  have fz := F.fsz.mono (show 20 ≤ 1900 by omega)
  by_cases c0 : pre = []
  · subst c0
    simp only [S_law_8, wIfS, wTest, wBin, wC, wSet, wLc, wRng1, wCall, wCons, wNil, wVar, wipeE, bLen, List.getElem?_cons_zero, List.getElem?_cons_succ, List.set_cons_zero, List.set_cons_succ, List.map_cons, List.map_nil, List.cons_append, List.nil_append, List.length_cons, List.length_nil, List.replicate, Option.some.injEq, Slot.val.injEq, Slot.own.injEq, D.lst.injEq, exists_eq_left', exists_eq_left, exists_eq', true_and, and_true, Nat.reduceAdd, Nat.reduceSub, Nat.reduceLeDiff, Bool.false_eq_true, if_true, if_false, ↓reduceIte, Int.reduceMul, Int.reduceAdd, Int.reduceSub, Int.reduceNeg, Int.reduceLT, Int.reduceLE, Int.reduceEq, Nat.reduceMul, Nat.reduceLT, String.reduceEq, String.reduceNe, Int.reduceToNat, reduceCtorEq, Bool.not_true, Bool.not_false, Bool.true_or, Bool.or_true, Bool.false_or, Bool.or_false, Bool.true_and, Bool.and_true, Bool.false_and, Bool.and_false, Bool.not_eq_true', decide_eq_true_eq, decide_eq_false_iff_not, not_true_eq_false, not_false_eq_true, dIn, dNotIn, flatD, List.all_cons, List.all_nil, List.any_cons, List.any_nil, dInt2, dSub, dFdiv, dMod, dLt, dLe, dGt, dGe, dPow, dNeg, dAdd, dMul, dEq, dNe, dIsN, dNotN, isNon_non, isNon_bl, isNon_int, isNon_str, isNon_tup, isNon_lst, isNon_fr, deq_non_non, deq_non_bl, deq_non_int, deq_non_str, deq_non_tup, deq_non_lst, deq_bl_non, deq_bl_bl, deq_bl_str, deq_bl_tup, deq_bl_lst, deq_int_non, deq_int_int, deq_int_str, deq_int_tup, deq_int_lst, deq_str_non, deq_str_bl, deq_str_int, deq_str_str, deq_str_tup, deq_str_lst, deq_tup_non, deq_tup_bl, deq_tup_int, deq_tup_str, deq_tup_tup, deq_tup_lst, deq_lst_non, deq_lst_bl, deq_lst_int, deq_lst_str, deq_lst_tup, deq_lst_lst, deqs_nil, deqs_cons, deqs_nil_cons, deqs_cons_nil, deq_fr_non, deq_non_fr, plain_non, plain_bl, plain_int, plain_lit, plains_nil, plains_cons, plain_lst20, plain_tup20, plain_lst19, plain_tup19, plain_tup18, plain_fr19, plain_fr18, deqs_frs, plains_frs19, decide_true, decide_false, ix0, ix1, deq_fr, plain_fr20, fr_def, fr_neg, fr_neg', okStr_lit, beq_lit, bAbs, bMax2, bMin2, bInt, bGcd, bList, bTuple, ofString_inj, dBool, List.length_map, Int.toNat_natCast, Int.natCast_zero]
    refine ⟨by omega, ?_⟩
    rw [rngD_nat]
    refine comp_filter (k := natD) (g := natD) (p := atP (insd [] f top) ms) (List.range ms.length) [] _ (by simp; omega) (fun i hi P pp => ?_) (fun i hi _ P pp e he => ?_) ?_
    · have hi' := List.mem_range.mp hi
      have az := (m.sz _ (List.getElem_mem hi')).mono (show 20 ≤ 1900 by omega)
      rw [atP_get hi'] at pp
      simp only [insd, decide_true, Bool.true_or, Bool.and_true] at pp
      simp only [wSeq, wNext, wSet, wSetO, wAsg, wFrz, wRet, wRetN, wDrop, wIfS, wNever, wVar, wOwn, wC, wBin, wUn, wNil, wCons, wTup, wLst, wCall, dBool, wAndV, wOrV, wNotV, wIf, wChain, wTest, wAnd, wOr, wNot, wBind, bindT, setAll, wPar, wAug, wMut, wMutSet, wPut, mAppend, mExtend, wItems, wFor, wBreak, wCont, wWhile, wLc, wipeE, wSlice, wNoP, wP, startE, AEnds.law, AEnds.fn, wSetF, wFld, startI, AEnds.ini, wDict, dGet, kLook, keyD, wRng1, wRng2, wRngDown, wZip, wEnum, wRev, wPar3O, wListZip, wSliceT, wLenSet, wLm, mInsert, natD, List.getElem?_cons_zero, List.getElem?_cons_succ, List.set_cons_zero, List.set_cons_succ, List.map_cons, List.map_nil, List.cons_append, List.nil_append, List.length_cons, List.length_nil, List.replicate, Option.some.injEq, Slot.val.injEq, Slot.own.injEq, D.lst.injEq, exists_eq_left', exists_eq_left, exists_eq', true_and, and_true, Nat.reduceAdd, Nat.reduceSub, Nat.reduceLeDiff, Bool.false_eq_true, if_true, if_false, ↓reduceIte, Int.reduceMul, Int.reduceAdd, Int.reduceSub, Int.reduceNeg, Int.reduceLT, Int.reduceLE, Int.reduceEq, Nat.reduceMul, Nat.reduceLT, String.reduceEq, String.reduceNe, Int.reduceToNat, reduceCtorEq, Bool.not_true, Bool.not_false, Bool.true_or, Bool.or_true, Bool.false_or, Bool.or_false, Bool.true_and, Bool.and_true, Bool.false_and, Bool.and_false, Bool.not_eq_true', decide_eq_true_eq, decide_eq_false_iff_not, not_true_eq_false, not_false_eq_true, ix_ms hi', cl_l_lt, az, fz] at pp ⊢
      exact pp _ rfl
    · simp only [wSeq, wNext, wSet, wSetO, wAsg, wFrz, wRet, wRetN, wDrop, wIfS, wNever, wVar, wOwn, wC, wBin, wUn, wNil, wCons, wTup, wLst, wCall, dBool, wAndV, wOrV, wNotV, wIf, wChain, wTest, wAnd, wOr, wNot, wBind, bindT, setAll, wPar, wAug, wMut, wMutSet, wPut, mAppend, mExtend, wItems, wFor, wBreak, wCont, wWhile, wLc, wipeE, wSlice, wNoP, wP, startE, AEnds.law, AEnds.fn, wSetF, wFld, startI, AEnds.ini, wDict, dGet, kLook, keyD, wRng1, wRng2, wRngDown, wZip, wEnum, wRev, wPar3O, wListZip, wSliceT, wLenSet, wLm, mInsert, natD, List.getElem?_cons_zero, List.getElem?_cons_succ, List.set_cons_zero, List.set_cons_succ, List.map_cons, List.map_nil, List.cons_append, List.nil_append, List.length_cons, List.length_nil, List.replicate, Option.some.injEq, Slot.val.injEq, Slot.own.injEq, D.lst.injEq, exists_eq_left', exists_eq_left, exists_eq', true_and, and_true, Nat.reduceAdd, Nat.reduceSub, Nat.reduceLeDiff, Bool.false_eq_true, if_true, if_false, ↓reduceIte, Int.reduceMul, Int.reduceAdd, Int.reduceSub, Int.reduceNeg, Int.reduceLT, Int.reduceLE, Int.reduceEq, Nat.reduceMul, Nat.reduceLT, String.reduceEq, String.reduceNe, Int.reduceToNat, reduceCtorEq, Bool.not_true, Bool.not_false, Bool.true_or, Bool.or_true, Bool.false_or, Bool.or_false, Bool.true_and, Bool.and_true, Bool.false_and, Bool.and_false, Bool.not_eq_true', decide_eq_true_eq, decide_eq_false_iff_not, not_true_eq_false, not_false_eq_true] at he ⊢
      subst he
      simp only [List.getElem?_cons_zero, List.getElem?_cons_succ, List.set_cons_zero, List.set_cons_succ, List.map_cons, List.map_nil, List.cons_append, List.nil_append, List.length_cons, List.length_nil, List.replicate, Option.some.injEq, Slot.val.injEq, Slot.own.injEq, D.lst.injEq, exists_eq_left', exists_eq_left, exists_eq', true_and, and_true, Nat.reduceAdd, Nat.reduceSub, Nat.reduceLeDiff, Bool.false_eq_true, if_true, if_false, ↓reduceIte, Int.reduceMul, Int.reduceAdd, Int.reduceSub, Int.reduceNeg, Int.reduceLT, Int.reduceLE, Int.reduceEq, Nat.reduceMul, Nat.reduceLT, String.reduceEq, String.reduceNe, Int.reduceToNat, reduceCtorEq, Bool.not_true, Bool.not_false, Bool.true_or, Bool.or_true, Bool.false_or, Bool.or_false, Bool.true_and, Bool.and_true, Bool.false_and, Bool.and_false, Bool.not_eq_true', decide_eq_true_eq, decide_eq_false_iff_not, not_true_eq_false, not_false_eq_true]
      exact pp
    · exact h
  · have ne : ¬ ((pre.length : Nat) : Int) = 0 := by
      have := List.length_pos_iff.mpr c0
      omega
    have e : (List.range ms.length).filter (atP (in7 f top) ms) = insL pre f top ms := by
      unfold insL
      congr 1
      funext i
      unfold atP
      cases ms[i]? with
      | none => rfl
      | some a => simp [in7, insd, c0]
    rw [e]
    simp only [S_law_8, wIfS, wTest, wBin, wC, wVar, List.getElem?_cons_zero, List.getElem?_cons_succ, List.set_cons_zero, List.set_cons_succ, List.map_cons, List.map_nil, List.cons_append, List.nil_append, List.length_cons, List.length_nil, List.replicate, Option.some.injEq, Slot.val.injEq, Slot.own.injEq, D.lst.injEq, exists_eq_left', exists_eq_left, exists_eq', true_and, and_true, Nat.reduceAdd, Nat.reduceSub, Nat.reduceLeDiff, Bool.false_eq_true, if_true, if_false, ↓reduceIte, Int.reduceMul, Int.reduceAdd, Int.reduceSub, Int.reduceNeg, Int.reduceLT, Int.reduceLE, Int.reduceEq, Nat.reduceMul, Nat.reduceLT, String.reduceEq, String.reduceNe, Int.reduceToNat, reduceCtorEq, Bool.not_true, Bool.not_false, Bool.true_or, Bool.or_true, Bool.false_or, Bool.or_false, Bool.true_and, Bool.and_true, Bool.false_and, Bool.and_false, Bool.not_eq_true', decide_eq_true_eq, decide_eq_false_iff_not, not_true_eq_false, not_false_eq_true, dIn, dNotIn, flatD, List.all_cons, List.all_nil, List.any_cons, List.any_nil, dInt2, dSub, dFdiv, dMod, dLt, dLe, dGt, dGe, dPow, dNeg, dAdd, dMul, dEq, dNe, dIsN, dNotN, isNon_non, isNon_bl, isNon_int, isNon_str, isNon_tup, isNon_lst, isNon_fr, deq_non_non, deq_non_bl, deq_non_int, deq_non_str, deq_non_tup, deq_non_lst, deq_bl_non, deq_bl_bl, deq_bl_str, deq_bl_tup, deq_bl_lst, deq_int_non, deq_int_int, deq_int_str, deq_int_tup, deq_int_lst, deq_str_non, deq_str_bl, deq_str_int, deq_str_str, deq_str_tup, deq_str_lst, deq_tup_non, deq_tup_bl, deq_tup_int, deq_tup_str, deq_tup_tup, deq_tup_lst, deq_lst_non, deq_lst_bl, deq_lst_int, deq_lst_str, deq_lst_tup, deq_lst_lst, deqs_nil, deqs_cons, deqs_nil_cons, deqs_cons_nil, deq_fr_non, deq_non_fr, plain_non, plain_bl, plain_int, plain_lit, plains_nil, plains_cons, plain_lst20, plain_tup20, plain_lst19, plain_tup19, plain_tup18, plain_fr19, plain_fr18, deqs_frs, plains_frs19, decide_true, decide_false, ix0, ix1, deq_fr, plain_fr20, fr_def, fr_neg, fr_neg', okStr_lit, beq_lit, bAbs, bMax2, bMin2, bInt, bGcd, bList, bTuple, ofString_inj, dBool, ne, decide_false, wNext]
    exact h
end

end Pl
end

section
set_option linter.all false
set_option maxRecDepth 100000
set_option autoImplicit false
set_option maxHeartbeats 1000000
namespace Pl
open PySem
section
variable {pre post : Rws} {f top bot : Rat} {ms : List Rat}
theorem any_nat (l : List Nat) (i : Nat) : ((l.map natD).any fun y => deq y (.int (i : Nat))) = decide (i ∈ l) := by
  induction l with
  | nil => simp
  | cons n l ih =>
    rw [List.map_cons, List.any_cons, ih]
    have : deq (natD n) (.int (i : Nat)) = decide (n = i) := by
      unfold natD
      rw [deq_int_int]
      by_cases c : n = i
      · subst c; simp
      · simp [c]; omega
    rw [this]
    by_cases e : n = i
    · subst e; simp
    · have e' : ¬ i = n := fun z => e z.symm
      simp [e, e']
theorem flat_nats (l : List Nat) : (l.map natD).all flatD = true := by simp [flatD, natD]
theorem ins_mem {i : Nat} (hi : i < ms.length) : decide (i ∈ insL pre f top ms) = insd pre f top ms[i] := by
  unfold insL
  rw [← atP_get (p := insd pre f top) hi]
  cases h : atP (insd pre f top) ms i <;> simp [List.mem_filter, h, hi]
theorem Ft.law9 (F : Ft pre post f top bot) (a : Rat) : gdR (pre ++ (zS, f) :: post) uS a = if insd pre f top a = true then zS else gdR (pre ++ post) uS a := by
  cases h : insd pre f top a with
  | true => rw [(F.in_ h).1]; rfl
  | false => rw [F.out h]; rfl
theorem body_9 (A : AEnds) {s0 s1 s3 s4 s5 s6 s12 s13 s14 s15 s16 s17 s18 s19 s20 s21 : Slot} (F : Ft pre post f top bot) (m : Mk (pre ++ post) f ms) {i : Nat} (hi : i < ms.length)
    (h : ∀ s12 s13 s14 : Slot, A.nx [s0, s1, .val (.lst ((pre ++ post).map gr)), s3, s4, s5, s6, .val (grs (pre ++ post) uS), .val (grs (pre ++ (zS, f) :: post) uS), .val (.lst (ms.map fr)), .val (.lst ((insL pre f top ms).map natD)), .val (natD i), s12, s13, s14, s15, s16, s17, s18, s19, s20, s21]) :
    B_law_9 A [s0, s1, .val (.lst ((pre ++ post).map gr)), s3, s4, s5, s6, .val (grs (pre ++ post) uS), .val (grs (pre ++ (zS, f) :: post) uS), .val (.lst (ms.map fr)), .val (.lst ((insL pre f top ms).map natD)), .val (natD i), s12, s13, s14, s15, s16, s17, s18, s19, s20, s21] := by
  have O := F.old
  have N := F.new
  have len := m.len
  have az := m.sz _ (List.getElem_mem hi)
  have a1 := az.mono (show 20 ≤ 1900 by omega)
  have a3 := az.mono (show 20 ≤ 300 by omega)
  have zz : (D.str "z") = D.str zS := rfl
  have l9 := F.law9 ms[i]
  generalize ha : ms[i] = a at *
  have po : plain 20 (.str (gdR (pre ++ post) uS a)) = true := O.ok _ (gd_mem' _ _ a)
  have pn : plain 20 (.str (gdR (pre ++ (zS, f) :: post) uS a)) = true := N.ok _ (gd_mem' _ _ a)
  have pz : plain 20 (.str zS) = true := okStr_lit _
  have ii : ∀ Q : D → Prop, dIx (.lst (ms.map fr)) (.int (i : Nat)) Q = Q (fr a) := fun Q => by rw [ix_ms hi, ha]
  have im : decide (i ∈ insL pre f top ms) = insd pre f top a := by rw [ins_mem hi, ha]
  have first : S_law_9_0 { A with nx := R_law_9_1 A } [s0, s1, .val (.lst ((pre ++ post).map gr)), s3, s4, s5, s6, .val (grs (pre ++ post) uS), .val (grs (pre ++ (zS, f) :: post) uS), .val (.lst (ms.map fr)), .val (.lst ((insL pre f top ms).map natD)), .val (natD i), s12, s13, s14, s15, s16, s17, s18, s19, s20, s21] = R_law_9_1 A [s0, s1, .val (.lst ((pre ++ post).map gr)), s3, s4, s5, s6, .val (grs (pre ++ post) uS), .val (grs (pre ++ (zS, f) :: post) uS), .val (.lst (ms.map fr)), .val (.lst ((insL pre f top ms).map natD)), .val (natD i), s12, s13, s14, s15, s16, s17, s18, s19, s20, s21] := by
    simp only [S_law_9_0, wIfS, wTest, wBin, wMeth, wCons, wNil, wVar, wC, wIf, wRet, wNext, List.getElem?_cons_zero, List.getElem?_cons_succ, List.set_cons_zero, List.set_cons_succ, List.map_cons, List.map_nil, List.cons_append, List.nil_append, List.length_cons, List.length_nil, List.replicate, Option.some.injEq, Slot.val.injEq, Slot.own.injEq, D.lst.injEq, exists_eq_left', exists_eq_left, exists_eq', true_and, and_true, Nat.reduceAdd, Nat.reduceSub, Nat.reduceLeDiff, Bool.false_eq_true, if_true, if_false, ↓reduceIte, Int.reduceMul, Int.reduceAdd, Int.reduceSub, Int.reduceNeg, Int.reduceLT, Int.reduceLE, Int.reduceEq, Nat.reduceMul, Nat.reduceLT, String.reduceEq, String.reduceNe, Int.reduceToNat, reduceCtorEq, Bool.not_true, Bool.not_false, Bool.true_or, Bool.or_true, Bool.false_or, Bool.or_false, Bool.true_and, Bool.and_true, Bool.false_and, Bool.and_false, Bool.not_eq_true', decide_eq_true_eq, decide_eq_false_iff_not, not_true_eq_false, not_false_eq_true, natD, ii, okM_grade, cl_Grades_grade, O, N, a1, dIn, flatD, dBool]
    rw [flat_nats, any_nat, im, zz]
    cases hins : insd pre f top a with
    | true =>
      rw [hins] at l9
      simp only [List.getElem?_cons_zero, List.getElem?_cons_succ, List.set_cons_zero, List.set_cons_succ, List.map_cons, List.map_nil, List.cons_append, List.nil_append, List.length_cons, List.length_nil, List.replicate, Option.some.injEq, Slot.val.injEq, Slot.own.injEq, D.lst.injEq, exists_eq_left', exists_eq_left, exists_eq', true_and, and_true, Nat.reduceAdd, Nat.reduceSub, Nat.reduceLeDiff, Bool.false_eq_true, if_true, if_false, ↓reduceIte, Int.reduceMul, Int.reduceAdd, Int.reduceSub, Int.reduceNeg, Int.reduceLT, Int.reduceLE, Int.reduceEq, Nat.reduceMul, Nat.reduceLT, String.reduceEq, String.reduceNe, Int.reduceToNat, reduceCtorEq, Bool.not_true, Bool.not_false, Bool.true_or, Bool.or_true, Bool.false_or, Bool.or_false, Bool.true_and, Bool.and_true, Bool.false_and, Bool.and_false, Bool.not_eq_true', decide_eq_true_eq, decide_eq_false_iff_not, not_true_eq_false, not_false_eq_true, dNe, dBool, pn, pz, deq_str, l9, decide_true]
    | false =>
      rw [hins] at l9
      simp only [List.getElem?_cons_zero, List.getElem?_cons_succ, List.set_cons_zero, List.set_cons_succ, List.map_cons, List.map_nil, List.cons_append, List.nil_append, List.length_cons, List.length_nil, List.replicate, Option.some.injEq, Slot.val.injEq, Slot.own.injEq, D.lst.injEq, exists_eq_left', exists_eq_left, exists_eq', true_and, and_true, Nat.reduceAdd, Nat.reduceSub, Nat.reduceLeDiff, Bool.false_eq_true, if_true, if_false, ↓reduceIte, Int.reduceMul, Int.reduceAdd, Int.reduceSub, Int.reduceNeg, Int.reduceLT, Int.reduceLE, Int.reduceEq, Nat.reduceMul, Nat.reduceLT, String.reduceEq, String.reduceNe, Int.reduceToNat, reduceCtorEq, Bool.not_true, Bool.not_false, Bool.true_or, Bool.or_true, Bool.false_or, Bool.or_false, Bool.true_and, Bool.and_true, Bool.false_and, Bool.and_false, Bool.not_eq_true', decide_eq_true_eq, decide_eq_false_iff_not, not_true_eq_false, not_false_eq_true, dNe, dBool, pn, po, deq_str, l9, decide_true]
  show S_law_9_0 { A with nx := R_law_9_1 A } _
  rw [first]
  have le := plc_le (pre ++ post) a
  have e0 : ∀ {x : D}, isNon (fr a) = false := rfl
  simp only [R_law_9_1, R_law_9_2, S_law_9_1, S_law_9_2, wSeq, wPar, wSet, wMeth, wCons, wNil, wBin, wVar, List.getElem?_cons_zero, List.getElem?_cons_succ, List.set_cons_zero, List.set_cons_succ, List.map_cons, List.map_nil, List.cons_append, List.nil_append, List.length_cons, List.length_nil, List.replicate, Option.some.injEq, Slot.val.injEq, Slot.own.injEq, D.lst.injEq, exists_eq_left', exists_eq_left, exists_eq', true_and, and_true, Nat.reduceAdd, Nat.reduceSub, Nat.reduceLeDiff, Bool.false_eq_true, if_true, if_false, ↓reduceIte, Int.reduceMul, Int.reduceAdd, Int.reduceSub, Int.reduceNeg, Int.reduceLT, Int.reduceLE, Int.reduceEq, Nat.reduceMul, Nat.reduceLT, String.reduceEq, String.reduceNe, Int.reduceToNat, reduceCtorEq, Bool.not_true, Bool.not_false, Bool.true_or, Bool.or_true, Bool.false_or, Bool.or_false, Bool.true_and, Bool.and_true, Bool.false_and, Bool.and_false, Bool.not_eq_true', decide_eq_true_eq, decide_eq_false_iff_not, not_true_eq_false, not_false_eq_true, natD, ii, okM_to_next, okM_over_edge, okM_place, okM_grade, cl_Grades_to_next, cl_Grades_over_edge, cl_Grades_grade, O, a3, a1, setAll]
  refine ci_Grades_place O (plc_name _ _ a) ?_
  have fin := h
  simp only [natD] at fin
  have four : ∀ (x y : D), ((x = .non ∧ plc (pre ++ post) a = 0) ∨ (∃ p, plc (pre ++ post) a ≠ 0 ∧ (pre ++ post)[plc (pre ++ post) a - 1]? = some p ∧ x = fr (p.2 - a))) → ((y = .non ∧ plc (pre ++ post) a = (pre ++ post).length) ∨ (∃ p, plc (pre ++ post) a ≠ (pre ++ post).length ∧ (pre ++ post)[plc (pre ++ post) a]? = some p ∧ y = fr (a - p.2))) →
      R_law_9_3 A [s0, s1, .val (.lst ((pre ++ post).map gr)), s3, s4, s5, s6, .val (grs (pre ++ post) uS), .val (grs (pre ++ (zS, f) :: post) uS), .val (.lst (ms.map fr)), .val (.lst ((insL pre f top ms).map natD)), .val (.int i), .val x, .val y, .val (.int (plc (pre ++ post) a : Nat)), s15, s16, s17, s18, s19, s20, s21] := by
    intro x y hx hy
    generalize plc (pre ++ post) a = j at *
    have nl : ∀ Q : D → Prop, bLen [.lst ((pre ++ post).map gr)] Q = Q (.int ((pre ++ post).length : Nat)) := fun Q => by simp [bLen]
    have ex : isNon x = decide (((j : Nat) : Int) = 0) := by
      rcases hx with ⟨rfl, ej⟩ | ⟨p, ej, hp, rfl⟩
      · simp [isNon, ej]
      · have : ¬ ((j : Nat) : Int) = 0 := by omega
        simp only [this, decide_false]; rfl
    have ey : isNon y = decide (((j : Nat) : Int) = ((pre ++ post).length : Nat)) := by
      rcases hy with ⟨rfl, ej⟩ | ⟨p, ej, hp, rfl⟩
      · simp [isNon, ej]
      · have : ¬ ((j : Nat) : Int) = ((pre ++ post).length : Nat) := by omega
        simp only [this, decide_false]; rfl
    have three : S_law_9_3 { A with nx := R_law_9_4 A } [s0, s1, .val (.lst ((pre ++ post).map gr)), s3, s4, s5, s6, .val (grs (pre ++ post) uS), .val (grs (pre ++ (zS, f) :: post) uS), .val (.lst (ms.map fr)), .val (.lst ((insL pre f top ms).map natD)), .val (.int i), .val x, .val y, .val (.int (j : Nat)), s15, s16, s17, s18, s19, s20, s21] = R_law_9_4 A [s0, s1, .val (.lst ((pre ++ post).map gr)), s3, s4, s5, s6, .val (grs (pre ++ post) uS), .val (grs (pre ++ (zS, f) :: post) uS), .val (.lst (ms.map fr)), .val (.lst ((insL pre f top ms).map natD)), .val (.int i), .val x, .val y, .val (.int (j : Nat)), s15, s16, s17, s18, s19, s20, s21] := by
      simp only [S_law_9_3, wSeq, wNext, wSet, wSetO, wAsg, wFrz, wRet, wRetN, wDrop, wIfS, wNever, wVar, wOwn, wC, wBin, wUn, wNil, wCons, wTup, wLst, wCall, dBool, wAndV, wOrV, wNotV, wIf, wChain, wTest, wAnd, wOr, wNot, wBind, bindT, setAll, wPar, wAug, wMut, wMutSet, wPut, mAppend, mExtend, wItems, wFor, wBreak, wCont, wWhile, wLc, wipeE, wSlice, wNoP, wP, startE, AEnds.law, AEnds.fn, wSetF, wFld, startI, AEnds.ini, wDict, dGet, kLook, keyD, wRng1, wRng2, wRngDown, wZip, wEnum, wRev, wPar3O, wListZip, wSliceT, wLenSet, wLm, mInsert, List.getElem?_cons_zero, List.getElem?_cons_succ, List.set_cons_zero, List.set_cons_succ, List.map_cons, List.map_nil, List.cons_append, List.nil_append, List.length_cons, List.length_nil, List.replicate, Option.some.injEq, Slot.val.injEq, Slot.own.injEq, D.lst.injEq, exists_eq_left', exists_eq_left, exists_eq', true_and, and_true, Nat.reduceAdd, Nat.reduceSub, Nat.reduceLeDiff, Bool.false_eq_true, if_true, if_false, ↓reduceIte, Int.reduceMul, Int.reduceAdd, Int.reduceSub, Int.reduceNeg, Int.reduceLT, Int.reduceLE, Int.reduceEq, Nat.reduceMul, Nat.reduceLT, String.reduceEq, String.reduceNe, Int.reduceToNat, reduceCtorEq, Bool.not_true, Bool.not_false, Bool.true_or, Bool.or_true, Bool.false_or, Bool.or_false, Bool.true_and, Bool.and_true, Bool.false_and, Bool.and_false, Bool.not_eq_true', decide_eq_true_eq, decide_eq_false_iff_not, not_true_eq_false, not_false_eq_true, dIn, dNotIn, flatD, List.all_cons, List.all_nil, List.any_cons, List.any_nil, dInt2, dSub, dFdiv, dMod, dLt, dLe, dGt, dGe, dPow, dNeg, dAdd, dMul, dEq, dNe, dIsN, dNotN, isNon_non, isNon_bl, isNon_int, isNon_str, isNon_tup, isNon_lst, isNon_fr, deq_non_non, deq_non_bl, deq_non_int, deq_non_str, deq_non_tup, deq_non_lst, deq_bl_non, deq_bl_bl, deq_bl_str, deq_bl_tup, deq_bl_lst, deq_int_non, deq_int_int, deq_int_str, deq_int_tup, deq_int_lst, deq_str_non, deq_str_bl, deq_str_int, deq_str_str, deq_str_tup, deq_str_lst, deq_tup_non, deq_tup_bl, deq_tup_int, deq_tup_str, deq_tup_tup, deq_tup_lst, deq_lst_non, deq_lst_bl, deq_lst_int, deq_lst_str, deq_lst_tup, deq_lst_lst, deqs_nil, deqs_cons, deqs_nil_cons, deqs_cons_nil, deq_fr_non, deq_non_fr, plain_non, plain_bl, plain_int, plain_lit, plains_nil, plains_cons, plain_lst20, plain_tup20, plain_lst19, plain_tup19, plain_tup18, plain_fr19, plain_fr18, deqs_frs, plains_frs19, decide_true, decide_false, ix0, ix1, deq_fr, plain_fr20, fr_def, fr_neg, fr_neg', okStr_lit, beq_lit, bAbs, bMax2, bMin2, bInt, bGcd, bList, bTuple, ofString_inj, nl, ex, ey, deq_bl_bl, beq_self_eq_true]
    show S_law_9_3 { A with nx := R_law_9_4 A } _
    rw [three]
    rcases hx with ⟨rfl, ej⟩ | ⟨p, ej, hp, rfl⟩
    · simp only [R_law_9_4, S_law_9_4, wSeq, wNext, wSet, wSetO, wAsg, wFrz, wRet, wRetN, wDrop, wIfS, wNever, wVar, wOwn, wC, wBin, wUn, wNil, wCons, wTup, wLst, wCall, dBool, wAndV, wOrV, wNotV, wIf, wChain, wTest, wAnd, wOr, wNot, wBind, bindT, setAll, wPar, wAug, wMut, wMutSet, wPut, mAppend, mExtend, wItems, wFor, wBreak, wCont, wWhile, wLc, wipeE, wSlice, wNoP, wP, startE, AEnds.law, AEnds.fn, wSetF, wFld, startI, AEnds.ini, wDict, dGet, kLook, keyD, wRng1, wRng2, wRngDown, wZip, wEnum, wRev, wPar3O, wListZip, wSliceT, wLenSet, wLm, mInsert, List.getElem?_cons_zero, List.getElem?_cons_succ, List.set_cons_zero, List.set_cons_succ, List.map_cons, List.map_nil, List.cons_append, List.nil_append, List.length_cons, List.length_nil, List.replicate, Option.some.injEq, Slot.val.injEq, Slot.own.injEq, D.lst.injEq, exists_eq_left', exists_eq_left, exists_eq', true_and, and_true, Nat.reduceAdd, Nat.reduceSub, Nat.reduceLeDiff, Bool.false_eq_true, if_true, if_false, ↓reduceIte, Int.reduceMul, Int.reduceAdd, Int.reduceSub, Int.reduceNeg, Int.reduceLT, Int.reduceLE, Int.reduceEq, Nat.reduceMul, Nat.reduceLT, String.reduceEq, String.reduceNe, Int.reduceToNat, reduceCtorEq, Bool.not_true, Bool.not_false, Bool.true_or, Bool.or_true, Bool.false_or, Bool.or_false, Bool.true_and, Bool.and_true, Bool.false_and, Bool.and_false, Bool.not_eq_true', decide_eq_true_eq, decide_eq_false_iff_not, not_true_eq_false, not_false_eq_true, dNotN, isNon_non]
      exact fin _ _ _
    · rcases hy with ⟨rfl, el⟩ | ⟨q, el, hq, rfl⟩
      · simp only [R_law_9_4, S_law_9_4, wSeq, wNext, wSet, wSetO, wAsg, wFrz, wRet, wRetN, wDrop, wIfS, wNever, wVar, wOwn, wC, wBin, wUn, wNil, wCons, wTup, wLst, wCall, dBool, wAndV, wOrV, wNotV, wIf, wChain, wTest, wAnd, wOr, wNot, wBind, bindT, setAll, wPar, wAug, wMut, wMutSet, wPut, mAppend, mExtend, wItems, wFor, wBreak, wCont, wWhile, wLc, wipeE, wSlice, wNoP, wP, startE, AEnds.law, AEnds.fn, wSetF, wFld, startI, AEnds.ini, wDict, dGet, kLook, keyD, wRng1, wRng2, wRngDown, wZip, wEnum, wRev, wPar3O, wListZip, wSliceT, wLenSet, wLm, mInsert, List.getElem?_cons_zero, List.getElem?_cons_succ, List.set_cons_zero, List.set_cons_succ, List.map_cons, List.map_nil, List.cons_append, List.nil_append, List.length_cons, List.length_nil, List.replicate, Option.some.injEq, Slot.val.injEq, Slot.own.injEq, D.lst.injEq, exists_eq_left', exists_eq_left, exists_eq', true_and, and_true, Nat.reduceAdd, Nat.reduceSub, Nat.reduceLeDiff, Bool.false_eq_true, if_true, if_false, ↓reduceIte, Int.reduceMul, Int.reduceAdd, Int.reduceSub, Int.reduceNeg, Int.reduceLT, Int.reduceLE, Int.reduceEq, Nat.reduceMul, Nat.reduceLT, String.reduceEq, String.reduceNe, Int.reduceToNat, reduceCtorEq, Bool.not_true, Bool.not_false, Bool.true_or, Bool.or_true, Bool.false_or, Bool.or_false, Bool.true_and, Bool.and_true, Bool.false_and, Bool.and_false, Bool.not_eq_true', decide_eq_true_eq, decide_eq_false_iff_not, not_true_eq_false, not_false_eq_true, dNotN, isNon_non, isNon_fr]
        exact fin _ _ _
      · obtain ⟨u, eu, u1, u2⟩ := F.d.le p (List.mem_of_getElem? hp)
        obtain ⟨v, ev, v1, v2⟩ := F.d.le q (List.mem_of_getElem? hq)
        have sp : Sz 5 p.2 := by rw [eu]; exact Sz.int (by omega) (by omega)
        have sq : Sz 5 q.2 := by rw [ev]; exact Sz.int (by omega) (by omega)
        have i1 : ∀ Q : D → Prop, dIx (.lst ((pre ++ post).map gr)) (.int (((j : Nat) : Int) - 1)) Q = Q (gr p) := fun Q => ix_grL Q (by omega) (by rw [show (((j : Nat) : Int) - 1).toNat = j - 1 by omega]; exact hp)
        have i2 : ∀ Q : D → Prop, dIx (.lst ((pre ++ post).map gr)) (.int ((j : Nat) : Int)) Q = Q (gr q) := fun Q => ix_grL Q (by omega) (by simpa using hq)
        have ad : ∀ Q : D → Prop, φ_l_add [fr (p.2 - a), fr (a - q.2)] Q = Q (fr (p.2 - a + (a - q.2))) := fun Q => cs_add ((sp.sub az).mono (by omega)) ((az.sub sq).mono (by omega))
        have sb : ∀ Q : D → Prop, φ_l_sub [fr p.2, fr q.2] Q = Q (fr (p.2 - q.2)) := fun Q => cs_sub (sp.mono (by omega)) (sq.mono (by omega))
        have ee : p.2 - a + (a - q.2) = p.2 - q.2 := by grind
        simp only [R_law_9_4, S_law_9_4, wSeq, wNext, wSet, wSetO, wAsg, wFrz, wRet, wRetN, wDrop, wIfS, wNever, wVar, wOwn, wC, wBin, wUn, wNil, wCons, wTup, wLst, wCall, dBool, wAndV, wOrV, wNotV, wIf, wChain, wTest, wAnd, wOr, wNot, wBind, bindT, setAll, wPar, wAug, wMut, wMutSet, wPut, mAppend, mExtend, wItems, wFor, wBreak, wCont, wWhile, wLc, wipeE, wSlice, wNoP, wP, startE, AEnds.law, AEnds.fn, wSetF, wFld, startI, AEnds.ini, wDict, dGet, kLook, keyD, wRng1, wRng2, wRngDown, wZip, wEnum, wRev, wPar3O, wListZip, wSliceT, wLenSet, wLm, mInsert, List.getElem?_cons_zero, List.getElem?_cons_succ, List.set_cons_zero, List.set_cons_succ, List.map_cons, List.map_nil, List.cons_append, List.nil_append, List.length_cons, List.length_nil, List.replicate, Option.some.injEq, Slot.val.injEq, Slot.own.injEq, D.lst.injEq, exists_eq_left', exists_eq_left, exists_eq', true_and, and_true, Nat.reduceAdd, Nat.reduceSub, Nat.reduceLeDiff, Bool.false_eq_true, if_true, if_false, ↓reduceIte, Int.reduceMul, Int.reduceAdd, Int.reduceSub, Int.reduceNeg, Int.reduceLT, Int.reduceLE, Int.reduceEq, Nat.reduceMul, Nat.reduceLT, String.reduceEq, String.reduceNe, Int.reduceToNat, reduceCtorEq, Bool.not_true, Bool.not_false, Bool.true_or, Bool.or_true, Bool.false_or, Bool.or_false, Bool.true_and, Bool.and_true, Bool.false_and, Bool.and_false, Bool.not_eq_true', decide_eq_true_eq, decide_eq_false_iff_not, not_true_eq_false, not_false_eq_true, dNotN, isNon_fr, dSub, dInt2, i1, i2, gr1, ad, sb, dNe, plain_fr, deq_fr, ee, decide_true]
        exact fin _ _ _
  exact four _ _ (next_edge _ a) (edge_edge _ a)
theorem st_9 (A : AEnds) {s0 s1 s3 s4 s5 s6 s15 s16 s17 s18 s19 s20 s21 : Slot} (F : Ft pre post f top bot) (m : Mk (pre ++ post) f ms) (h : ∀ s11 s12 s13 s14 : Slot, A.nx [s0, s1, .val (.lst ((pre ++ post).map gr)), s3, s4, s5, s6, .val (grs (pre ++ post) uS), .val (grs (pre ++ (zS, f) :: post) uS), .val (.lst (ms.map fr)), .val (.lst ((insL pre f top ms).map natD)), s11, s12, s13, s14, s15, s16, s17, s18, s19, s20, s21]) {s11 s12 s13 s14 : Slot} :
    S_law_9 A [s0, s1, .val (.lst ((pre ++ post).map gr)), s3, s4, s5, s6, .val (grs (pre ++ post) uS), .val (grs (pre ++ (zS, f) :: post) uS), .val (.lst (ms.map fr)), .val (.lst ((insL pre f top ms).map natD)), s11, s12, s13, s14, s15, s16, s17, s18, s19, s20, s21] := by
  have len := m.len
  simp only [S_law_9, wFor, wRng1, wCall, wCons, wNil, wVar, bLen, List.getElem?_cons_zero, List.getElem?_cons_succ, List.set_cons_zero, List.set_cons_succ, List.map_cons, List.map_nil, List.cons_append, List.nil_append, List.length_cons, List.length_nil, List.replicate, Option.some.injEq, Slot.val.injEq, Slot.own.injEq, D.lst.injEq, exists_eq_left', exists_eq_left, exists_eq', true_and, and_true, Nat.reduceAdd, Nat.reduceSub, Nat.reduceLeDiff, Bool.false_eq_true, if_true, if_false, ↓reduceIte, Int.reduceMul, Int.reduceAdd, Int.reduceSub, Int.reduceNeg, Int.reduceLT, Int.reduceLE, Int.reduceEq, Nat.reduceMul, Nat.reduceLT, String.reduceEq, String.reduceNe, Int.reduceToNat, reduceCtorEq, Bool.not_true, Bool.not_false, Bool.true_or, Bool.or_true, Bool.false_or, Bool.or_false, Bool.true_and, Bool.and_true, Bool.false_and, Bool.and_false, Bool.not_eq_true', decide_eq_true_eq, decide_eq_false_iff_not, not_true_eq_false, not_false_eq_true, List.length_map, Int.toNat_natCast]
  refine ⟨by omega, ?_⟩
  rw [rngD_nat]
  have key : ∀ (L : List Nat) (s11 s12 s13 s14 : Slot), (∀ i ∈ L, i < ms.length) → wForL (.name 11) B_law_9 (L.map natD) A [s0, s1, .val (.lst ((pre ++ post).map gr)), s3, s4, s5, s6, .val (grs (pre ++ post) uS), .val (grs (pre ++ (zS, f) :: post) uS), .val (.lst (ms.map fr)), .val (.lst ((insL pre f top ms).map natD)), s11, s12, s13, s14, s15, s16, s17, s18, s19, s20, s21] := by
    intro L
    induction L with
    | nil => intro s11 s12 s13 s14 _; exact h _ _ _ _
    | cons a L ih =>
      intro s11 s12 s13 s14 hl
      rw [List.map_cons]
      unfold wForL
      simp only [wBind, bindT, List.getElem?_cons_zero, List.getElem?_cons_succ, List.set_cons_zero, List.set_cons_succ, List.map_cons, List.map_nil, List.cons_append, List.nil_append, List.length_cons, List.length_nil, List.replicate, Option.some.injEq, Slot.val.injEq, Slot.own.injEq, D.lst.injEq, exists_eq_left', exists_eq_left, exists_eq', true_and, and_true, Nat.reduceAdd, Nat.reduceSub, Nat.reduceLeDiff, Bool.false_eq_true, if_true, if_false, ↓reduceIte, Int.reduceMul, Int.reduceAdd, Int.reduceSub, Int.reduceNeg, Int.reduceLT, Int.reduceLE, Int.reduceEq, Nat.reduceMul, Nat.reduceLT, String.reduceEq, String.reduceNe, Int.reduceToNat, reduceCtorEq, Bool.not_true, Bool.not_false, Bool.true_or, Bool.or_true, Bool.false_or, Bool.or_false, Bool.true_and, Bool.and_true, Bool.false_and, Bool.and_false, Bool.not_eq_true', decide_eq_true_eq, decide_eq_false_iff_not, not_true_eq_false, not_false_eq_true]
      exact body_9 _ F m (hl a List.mem_cons_self) fun s12 s13 s14 => ih _ _ _ _ fun x hx => hl x (List.mem_cons_of_mem _ hx)
  exact key _ _ _ _ _ fun i hi => List.mem_range.mp hi
end

end Pl
end

section
set_option linter.all false
set_option maxRecDepth 100000
set_option autoImplicit false
set_option maxHeartbeats 1000000
namespace Pl
open PySem
section
variable {pre post : Rws} {f top bot : Rat} {ms : List Rat}
theorem st_10 (A : AEnds) {s0 s1 s2 s3 s4 s5 s6 s10 s11 s12 s13 s14 s15 s16 : Slot} {es : List Slot} (F : Ft pre post f top bot) (m : Mk (pre ++ post) f ms) (h : A.nx (s0 :: s1 :: s2 :: s3 :: s4 :: s5 :: s6 :: .val (grs (pre ++ post) uS) :: .val (grs (pre ++ (zS, f) :: post) uS) :: .val (.lst (ms.map fr)) :: s10 :: s11 :: s12 :: s13 :: s14 :: .val (.lst ((cnts (pre ++ post) uS ms).map natD)) :: .val (.lst ((cnts (pre ++ (zS, f) :: post) uS ms).map natD)) :: es)) :
    S_law_10 A (s0 :: s1 :: s2 :: s3 :: s4 :: s5 :: s6 :: .val (grs (pre ++ post) uS) :: .val (grs (pre ++ (zS, f) :: post) uS) :: .val (.lst (ms.map fr)) :: s10 :: s11 :: s12 :: s13 :: s14 :: s15 :: s16 :: es) := by
  have len := m.len
  have z : ∀ a ∈ ms, Sz 1900 a := fun a ha => (m.sz a ha).mono (by omega)
  simp only [S_law_10, wAsg, wTup, wMeth, wCons, wNil, wVar, List.getElem?_cons_zero, List.getElem?_cons_succ, List.set_cons_zero, List.set_cons_succ, List.map_cons, List.map_nil, List.cons_append, List.nil_append, List.length_cons, List.length_nil, List.replicate, Option.some.injEq, Slot.val.injEq, Slot.own.injEq, D.lst.injEq, exists_eq_left', exists_eq_left, exists_eq', true_and, and_true, Nat.reduceAdd, Nat.reduceSub, Nat.reduceLeDiff, Bool.false_eq_true, if_true, if_false, ↓reduceIte, Int.reduceMul, Int.reduceAdd, Int.reduceSub, Int.reduceNeg, Int.reduceLT, Int.reduceLE, Int.reduceEq, Nat.reduceMul, Nat.reduceLT, String.reduceEq, String.reduceNe, Int.reduceToNat, reduceCtorEq, Bool.not_true, Bool.not_false, Bool.true_or, Bool.or_true, Bool.false_or, Bool.or_false, Bool.true_and, Bool.and_true, Bool.false_and, Bool.and_false, Bool.not_eq_true', decide_eq_true_eq, decide_eq_false_iff_not, not_true_eq_false, not_false_eq_true, okM_counts]
  refine ci_Grades_counts F.old (by omega) z (ci_Grades_counts F.new (by omega) z ?_)
  simp only [wBind, bindT, setAll, List.getElem?_cons_zero, List.getElem?_cons_succ, List.set_cons_zero, List.set_cons_succ, List.map_cons, List.map_nil, List.cons_append, List.nil_append, List.length_cons, List.length_nil, List.replicate, Option.some.injEq, Slot.val.injEq, Slot.own.injEq, D.lst.injEq, exists_eq_left', exists_eq_left, exists_eq', true_and, and_true, Nat.reduceAdd, Nat.reduceSub, Nat.reduceLeDiff, Bool.false_eq_true, if_true, if_false, ↓reduceIte, Int.reduceMul, Int.reduceAdd, Int.reduceSub, Int.reduceNeg, Int.reduceLT, Int.reduceLE, Int.reduceEq, Nat.reduceMul, Nat.reduceLT, String.reduceEq, String.reduceNe, Int.reduceToNat, reduceCtorEq, Bool.not_true, Bool.not_false, Bool.true_or, Bool.or_true, Bool.false_or, Bool.or_false, Bool.true_and, Bool.and_true, Bool.false_and, Bool.and_false, Bool.not_eq_true', decide_eq_true_eq, decide_eq_false_iff_not, not_true_eq_false, not_false_eq_true]
  first | exact ⟨by omega, h⟩ | exact h
theorem deq_nat (a b : Nat) : deq (natD a) (natD b) = decide (a = b) := by
  unfold natD
  rw [deq_int_int]
  by_cases c : a = b
  · subst c; simp
  · simp [c]; omega
theorem deqs_nats (xs ys : List Nat) : deqs (xs.map natD) (ys.map natD) = decide (xs = ys) := deqs_map deq_nat xs ys
theorem plains_nats (n : Nat) (xs : List Nat) : plains n (xs.map natD) = true := plains_map fun x => plain_int
theorem intsD_nats (xs : List Nat) : intsD (xs.map natD) = some (xs.map fun (n : Nat) => (n : Int)) := by
  induction xs with
  | nil => rfl
  | cons n xs ih => simp [intsD, natD] at ih ⊢; exact ih
theorem sum_nats (xs : List Nat) : (xs.map fun (n : Nat) => (n : Int)).sum = (xs.sum : Nat) := by
  induction xs with
  | nil => rfl
  | cons n xs ih => simp only [List.map_cons, List.sum_cons, ih]; omega
theorem ix_nats {xs : List Nat} {i : Nat} {n : Nat} (h : xs[i]? = some n) (Q : D → Prop) : dIx (.lst (xs.map natD)) (.int (i : Nat)) Q = Q (natD n) := ix_lst Q (by omega) (by rw [Int.toNat_natCast, List.getElem?_map, h]; rfl)
theorem st_11 (A : AEnds) {s0 s1 s2 s4 s5 s6 s7 s8 s11 s12 s13 s14 : Slot} {es : List Slot} (F : Ft pre post f top bot) (m : Mk (pre ++ post) f ms) (h : A.nx (s0 :: s1 :: s2 :: .val (.int (pre.length : Nat)) :: s4 :: s5 :: s6 :: s7 :: s8 :: .val (.lst (ms.map fr)) :: .val (.lst ((insL pre f top ms).map natD)) :: s11 :: s12 :: s13 :: s14 :: .val (.lst ((cnts (pre ++ post) uS ms).map natD)) :: .val (.lst ((cnts (pre ++ (zS, f) :: post) uS ms).map natD)) :: es)) :
    S_law_11 A (s0 :: s1 :: s2 :: .val (.int (pre.length : Nat)) :: s4 :: s5 :: s6 :: s7 :: s8 :: .val (.lst (ms.map fr)) :: .val (.lst ((insL pre f top ms).map natD)) :: s11 :: s12 :: s13 :: s14 :: .val (.lst ((cnts (pre ++ post) uS ms).map natD)) :: .val (.lst ((cnts (pre ++ (zS, f) :: post) uS ms).map natD)) :: es) := by
  have few := F.d.few
  have few' : pre.length + post.length ≤ 4 := by simpa using few
  have sum0 := cnts_sum F.old ms
  obtain ⟨A0, T0, c0, lA, lT, e1, e2⟩ := F.counts ms
  have el : (insL pre f top ms).length = ms.countP (insd pre f top) := range_count _ _
  generalize ms.countP (insd pre f top) = c at *
  rw [e1, e2] at h ⊢
  rw [e2] at sum0
  have i1 : ∀ Q : D → Prop, dIx (.lst ((A0 ++ c :: c0 :: T0).map natD)) (.int (pre.length : Nat)) Q = Q (natD c) := fun Q => ix_nats (by rw [← lA]; simp) Q
  have i2 : ∀ Q : D → Prop, dIx (.lst ((A0 ++ c :: c0 :: T0).map natD)) (.int (((pre.length : Nat) : Int) + 1)) Q = Q (natD c0) := fun Q => by
    rw [show (((pre.length : Nat) : Int) + 1) = ((pre.length + 1 : Nat) : Int) by omega]
    exact ix_nats (by rw [← lA]; simp) Q
  have t1 : cutD ((A0 ++ c :: c0 :: T0).map natD) none (some ((pre.length : Nat) : Int)) = A0.map natD := by rw [cutD_to_nat, ← lA, ← List.map_take, List.take_left]
  have t2 : cutD ((A0 ++ c :: c0 :: T0).map natD) (some (((pre.length : Nat) : Int) + 2)) none = T0.map natD := by
    rw [show (((pre.length : Nat) : Int) + 2) = ((pre.length + 2 : Nat) : Int) by omega, cutD_from_nat, ← lA, ← List.map_drop, show A0 ++ c :: c0 :: T0 = (A0 ++ [c, c0]) ++ T0 by simp, List.drop_left' (by simp)]
  have bl : ∀ Q : D → Prop, bLen [.lst ((insL pre f top ms).map natD)] Q = Q (natD c) := fun Q => by simp [bLen, el, natD]
  have bm : ∀ Q : D → Prop, bLen [.lst (ms.map fr)] Q = Q (natD ms.length) := fun Q => by simp [bLen, natD]
  have bs : ∀ Q : D → Prop, bSum [.lst ((A0 ++ (c + c0) :: T0).map natD)] Q = Q (natD ms.length) := fun Q => by
    simp only [bSum, intsD_nats, List.getElem?_cons_zero, List.getElem?_cons_succ, List.set_cons_zero, List.set_cons_succ, List.map_cons, List.map_nil, List.cons_append, List.nil_append, List.length_cons, List.length_nil, List.replicate, Option.some.injEq, Slot.val.injEq, Slot.own.injEq, D.lst.injEq, exists_eq_left', exists_eq_left, exists_eq', true_and, and_true, Nat.reduceAdd, Nat.reduceSub, Nat.reduceLeDiff, Bool.false_eq_true, if_true, if_false, ↓reduceIte, Int.reduceMul, Int.reduceAdd, Int.reduceSub, Int.reduceNeg, Int.reduceLT, Int.reduceLE, Int.reduceEq, Nat.reduceMul, Nat.reduceLT, String.reduceEq, String.reduceNe, Int.reduceToNat, reduceCtorEq, Bool.not_true, Bool.not_false, Bool.true_or, Bool.or_true, Bool.false_or, Bool.or_false, Bool.true_and, Bool.and_true, Bool.false_and, Bool.and_false, Bool.not_eq_true', decide_eq_true_eq, decide_eq_false_iff_not, not_true_eq_false, not_false_eq_true, sum_nats, sum0]; rfl
  have d1 : ∀ Q : D → Prop, dAdd (.int (pre.length : Nat)) (.int 1) Q = Q (.int (((pre.length : Nat) : Int) + 1)) := fun Q => rfl
  have d2 : ∀ Q : D → Prop, dAdd (.int (pre.length : Nat)) (.int 2) Q = Q (.int (((pre.length : Nat) : Int) + 2)) := fun Q => rfl
  have cc : ∀ Q : D → Prop, dAdd (natD c) (natD c0) Q = Q (natD (c + c0)) := fun Q => by simp [dAdd, natD]
  have j : (A0.map natD ++ [natD (c + c0)]) ++ T0.map natD = (A0 ++ (c + c0) :: T0).map natD := by simp
  have jl : ∀ Q : D → Prop, (dAdd (.lst (A0.map natD)) (.lst [natD (c + c0)]) fun x => dAdd x (.lst (T0.map natD)) Q) = Q (.lst ((A0 ++ (c + c0) :: T0).map natD)) := fun Q => by
    simp only [dAdd, j]
    have l1 : (A0.map natD).length + [natD (c + c0)].length ≤ 16777216 := by simp; omega
    have l2 : (A0.map natD ++ [natD (c + c0)]).length + (T0.map natD).length ≤ 16777216 := by simp; omega
    simp only [l1, l2, true_and]
  have pn : ∀ k : Nat, plain 20 (natD k) = true := fun k => plain_int
  simp only [S_law_11, wIfS, wOr, wTest, wBin, wCall, wCons, wNil, wVar, wC, wLst, wSlice, wNoP, wP, wRet, wNext, List.getElem?_cons_zero, List.getElem?_cons_succ, List.set_cons_zero, List.set_cons_succ, List.map_cons, List.map_nil, List.cons_append, List.nil_append, List.length_cons, List.length_nil, List.replicate, Option.some.injEq, Slot.val.injEq, Slot.own.injEq, D.lst.injEq, exists_eq_left', exists_eq_left, exists_eq', true_and, and_true, Nat.reduceAdd, Nat.reduceSub, Nat.reduceLeDiff, Bool.false_eq_true, if_true, if_false, ↓reduceIte, Int.reduceMul, Int.reduceAdd, Int.reduceSub, Int.reduceNeg, Int.reduceLT, Int.reduceLE, Int.reduceEq, Nat.reduceMul, Nat.reduceLT, String.reduceEq, String.reduceNe, Int.reduceToNat, reduceCtorEq, Bool.not_true, Bool.not_false, Bool.true_or, Bool.or_true, Bool.false_or, Bool.or_false, Bool.true_and, Bool.and_true, Bool.false_and, Bool.and_false, Bool.not_eq_true', decide_eq_true_eq, decide_eq_false_iff_not, not_true_eq_false, not_false_eq_true, i1, i2, t1, t2, bl, bm, bs, d1, d2, cc, jl, dNe, dBool, pn, deq_nat, plain_lst20, plains_nats, deq_lst_lst, deqs_nats, decide_true]
  exact h
theorem st_12 (A : AEnds) {s0 s1 s2 s3 s4 s5 s6 s11 s12 s13 s14 s15 s17 s18 s19 s20 s21 : Slot} (F : Ft pre post f top bot) (m : Mk (pre ++ post) f ms) (h : A.nx [s0, s1, s2, s3, s4, s5, s6, .val (grs (pre ++ post) uS), .val (grs (pre ++ (zS, f) :: post) uS), .val (.lst (ms.map fr)), .val (.lst ((insL pre f top ms).map natD)), s11, s12, s13, s14, s15, .val (.lst ((cnts (pre ++ (zS, f) :: post) uS ms).map natD)), s17, s18, s19, s20, s21]) :
    S_law_12 A [s0, s1, s2, s3, s4, s5, s6, .val (grs (pre ++ post) uS), .val (grs (pre ++ (zS, f) :: post) uS), .val (.lst (ms.map fr)), .val (.lst ((insL pre f top ms).map natD)), s11, s12, s13, s14, s15, .val (.lst ((cnts (pre ++ (zS, f) :: post) uS ms).map natD)), s17, s18, s19, s20, s21] := by
  have len := m.len
  have few := F.d.few
  have few' : pre.length + post.length ≤ 4 := by simpa using few
  have z : ∀ a ∈ ms, Sz 1900 a := fun a ha => (m.sz a ha).mono (by omega)
  have cl : (cnts (pre ++ (zS, f) :: post) uS ms).length ≤ 10 := by unfold cnts; rw [List.length_map, nms_len]; simp; omega
  simp only [S_law_12, wIfS, wOr, wNot, wTest, wCall, wMeth, wCons, wNil, wVar, List.getElem?_cons_zero, List.getElem?_cons_succ, List.set_cons_zero, List.set_cons_succ, List.map_cons, List.map_nil, List.cons_append, List.nil_append, List.length_cons, List.length_nil, List.replicate, Option.some.injEq, Slot.val.injEq, Slot.own.injEq, D.lst.injEq, exists_eq_left', exists_eq_left, exists_eq', true_and, and_true, Nat.reduceAdd, Nat.reduceSub, Nat.reduceLeDiff, Bool.false_eq_true, if_true, if_false, ↓reduceIte, Int.reduceMul, Int.reduceAdd, Int.reduceSub, Int.reduceNeg, Int.reduceLT, Int.reduceLE, Int.reduceEq, Nat.reduceMul, Nat.reduceLT, String.reduceEq, String.reduceNe, Int.reduceToNat, reduceCtorEq, Bool.not_true, Bool.not_false, Bool.true_or, Bool.or_true, Bool.false_or, Bool.or_false, Bool.true_and, Bool.and_true, Bool.false_and, Bool.and_false, Bool.not_eq_true', decide_eq_true_eq, decide_eq_false_iff_not, not_true_eq_false, not_false_eq_true, okM_at_least]
  refine ci_Grades_at_least F.new (by omega) z ?_
  rw [sums_eq]
  generalize cnts (pre ++ (zS, f) :: post) uS ms = C at *
  simp only [wLc, wRng1, wCall, wCons, wNil, wVar, wipeE, bLen, List.getElem?_cons_zero, List.getElem?_cons_succ, List.set_cons_zero, List.set_cons_succ, List.map_cons, List.map_nil, List.cons_append, List.nil_append, List.length_cons, List.length_nil, List.replicate, Option.some.injEq, Slot.val.injEq, Slot.own.injEq, D.lst.injEq, exists_eq_left', exists_eq_left, exists_eq', true_and, and_true, Nat.reduceAdd, Nat.reduceSub, Nat.reduceLeDiff, Bool.false_eq_true, if_true, if_false, ↓reduceIte, Int.reduceMul, Int.reduceAdd, Int.reduceSub, Int.reduceNeg, Int.reduceLT, Int.reduceLE, Int.reduceEq, Nat.reduceMul, Nat.reduceLT, String.reduceEq, String.reduceNe, Int.reduceToNat, reduceCtorEq, Bool.not_true, Bool.not_false, Bool.true_or, Bool.or_true, Bool.false_or, Bool.or_false, Bool.true_and, Bool.and_true, Bool.false_and, Bool.and_false, Bool.not_eq_true', decide_eq_true_eq, decide_eq_false_iff_not, not_true_eq_false, not_false_eq_true, List.length_map, Int.toNat_natCast]
  refine ⟨by omega, ?_⟩
  refine comp_rng0 (n := C.length) (fun n => natD ((C.take (n + 1)).sum)) (by omega) (fun i hi P pp => ?_) ?_
  · have t : cutD (C.map natD) none (some ((i : Int) + 1)) = (C.take (i + 1)).map natD := by rw [show ((i : Int) + 1) = ((i + 1 : Nat) : Int) by omega, cutD_to_nat, List.map_take]
    simp only [wBind, bindT, wCall, wCons, wNil, wSlice, wNoP, wP, wBin, wVar, wC, List.getElem?_cons_zero, List.getElem?_cons_succ, List.set_cons_zero, List.set_cons_succ, List.map_cons, List.map_nil, List.cons_append, List.nil_append, List.length_cons, List.length_nil, List.replicate, Option.some.injEq, Slot.val.injEq, Slot.own.injEq, D.lst.injEq, exists_eq_left', exists_eq_left, exists_eq', true_and, and_true, Nat.reduceAdd, Nat.reduceSub, Nat.reduceLeDiff, Bool.false_eq_true, if_true, if_false, ↓reduceIte, Int.reduceMul, Int.reduceAdd, Int.reduceSub, Int.reduceNeg, Int.reduceLT, Int.reduceLE, Int.reduceEq, Nat.reduceMul, Nat.reduceLT, String.reduceEq, String.reduceNe, Int.reduceToNat, reduceCtorEq, Bool.not_true, Bool.not_false, Bool.true_or, Bool.or_true, Bool.false_or, Bool.or_false, Bool.true_and, Bool.and_true, Bool.false_and, Bool.and_false, Bool.not_eq_true', decide_eq_true_eq, decide_eq_false_iff_not, not_true_eq_false, not_false_eq_true, dAdd, t, bSum, intsD_nats, sum_nats]
    exact pp
  · have e : (List.range C.length).map (fun n => natD ((C.take (n + 1)).sum)) = ((List.range C.length).map fun n => (C.take (n + 1)).sum).map natD := by rw [List.map_map]; rfl
    rw [e]
    simp only [cl_l_is, plain_lst20, plains_nats, notBl_lst, deq_lst_lst, deqs_nats, decide_true, dBool, List.getElem?_cons_zero, List.getElem?_cons_succ, List.set_cons_zero, List.set_cons_succ, List.map_cons, List.map_nil, List.cons_append, List.nil_append, List.length_cons, List.length_nil, List.replicate, Option.some.injEq, Slot.val.injEq, Slot.own.injEq, D.lst.injEq, exists_eq_left', exists_eq_left, exists_eq', true_and, and_true, Nat.reduceAdd, Nat.reduceSub, Nat.reduceLeDiff, Bool.false_eq_true, if_true, if_false, ↓reduceIte, Int.reduceMul, Int.reduceAdd, Int.reduceSub, Int.reduceNeg, Int.reduceLT, Int.reduceLE, Int.reduceEq, Nat.reduceMul, Nat.reduceLT, String.reduceEq, String.reduceNe, Int.reduceToNat, reduceCtorEq, Bool.not_true, Bool.not_false, Bool.true_or, Bool.or_true, Bool.false_or, Bool.or_false, Bool.true_and, Bool.and_true, Bool.false_and, Bool.and_false, Bool.not_eq_true', decide_eq_true_eq, decide_eq_false_iff_not, not_true_eq_false, not_false_eq_true]
    refine ci_regraded F.old F.new (by omega) z ?_
    rw [F.regd]
    simp only [cl_l_is, plain_lst20, plains_nats, notBl_lst, deq_lst_lst, deqs_nats, decide_true, dBool, List.getElem?_cons_zero, List.getElem?_cons_succ, List.set_cons_zero, List.set_cons_succ, List.map_cons, List.map_nil, List.cons_append, List.nil_append, List.length_cons, List.length_nil, List.replicate, Option.some.injEq, Slot.val.injEq, Slot.own.injEq, D.lst.injEq, exists_eq_left', exists_eq_left, exists_eq', true_and, and_true, Nat.reduceAdd, Nat.reduceSub, Nat.reduceLeDiff, Bool.false_eq_true, if_true, if_false, ↓reduceIte, Int.reduceMul, Int.reduceAdd, Int.reduceSub, Int.reduceNeg, Int.reduceLT, Int.reduceLE, Int.reduceEq, Nat.reduceMul, Nat.reduceLT, String.reduceEq, String.reduceNe, Int.reduceToNat, reduceCtorEq, Bool.not_true, Bool.not_false, Bool.true_or, Bool.or_true, Bool.false_or, Bool.or_false, Bool.true_and, Bool.and_true, Bool.false_and, Bool.and_false, Bool.not_eq_true', decide_eq_true_eq, decide_eq_false_iff_not, not_true_eq_false, not_false_eq_true, insL, wRet, wNext]
    exact h
end

end Pl
end

section
set_option linter.all false
set_option maxRecDepth 100000
set_option autoImplicit false
set_option maxHeartbeats 1000000
namespace Pl
open PySem
theorem half_fr : D.tup [.int 1, .int 2] = fr (1 / 2) := by
  rw [show (1 / 2 : Rat) = Rat.divInt 1 2 by rw [Rat.divInt_eq_div]; rfl]
  rfl
theorem neg_fr (a : Rat) : D.tup [.int (0 - a.num), .int a.den] = fr (-a) := by unfold fr; rw [Rat.neg_num, Rat.neg_den, Int.zero_sub]
theorem set_mid {α : Type} (pre post : List α) (x y : α) : (pre ++ x :: post).set pre.length y = pre ++ y :: post := by simp
section
variable {pre post : Rws} {f top bot : Rat} {ms : List Rat}
theorem Ft.bsz (F : Ft pre post f top bot) : Sz 5 bot := by
  obtain ⟨⟨b, eb, b0, b1⟩, _, _⟩ := F.bound
  rw [eb]; exact Sz.int (by omega) (by omega)
theorem Ft.stz (F : Ft pre post f top bot) : Sz 30 ((f - bot) * (1 / 2)) := ((F.fsz.sub F.bsz).mul (Sz.half (n := 3) (by omega))).mono (by omega)
theorem Ft.down (F : Ft pre post f top bot) : Gr (pre ++ (zS, f - (f - bot) * (1 / 2)) :: post) uS :=
  F.any ((F.fsz.sub F.stz).mono (by omega)) (by have := F.mid.1; grind) (by have := F.mid; grind)
theorem st_13 (A : AEnds) {s0 s1 s2 s3 s4 s7 s8 s9 s10 s11 s12 s13 s14 s15 s16 s17 : Slot} {es : List Slot} (F : Ft pre post f top bot) (h : A.nx (s0 :: s1 :: s2 :: s3 :: s4 :: .val (fr bot) :: .val (fr f) :: s7 :: s8 :: s9 :: s10 :: s11 :: s12 :: s13 :: s14 :: s15 :: s16 :: .val (fr ((f - bot) * (1 / 2))) :: es)) :
    S_law_13 A (s0 :: s1 :: s2 :: s3 :: s4 :: .val (fr bot) :: .val (fr f) :: s7 :: s8 :: s9 :: s10 :: s11 :: s12 :: s13 :: s14 :: s15 :: s16 :: s17 :: es) := by
  simp only [S_law_13, wSet, wCall, wCons, wNil, wVar, wTup, wC, List.getElem?_cons_zero, List.getElem?_cons_succ, List.set_cons_zero, List.set_cons_succ, List.map_cons, List.map_nil, List.cons_append, List.nil_append, List.length_cons, List.length_nil, List.replicate, Option.some.injEq, Slot.val.injEq, Slot.own.injEq, D.lst.injEq, exists_eq_left', exists_eq_left, exists_eq', true_and, and_true, Nat.reduceAdd, Nat.reduceSub, Nat.reduceLeDiff, Bool.false_eq_true, if_true, if_false, ↓reduceIte, Int.reduceMul, Int.reduceAdd, Int.reduceSub, Int.reduceNeg, Int.reduceLT, Int.reduceLE, Int.reduceEq, Nat.reduceMul, Nat.reduceLT, String.reduceEq, String.reduceNe, Int.reduceToNat, reduceCtorEq, Bool.not_true, Bool.not_false, Bool.true_or, Bool.or_true, Bool.false_or, Bool.or_false, Bool.true_and, Bool.and_true, Bool.false_and, Bool.and_false, Bool.not_eq_true', decide_eq_true_eq, decide_eq_false_iff_not, not_true_eq_false, not_false_eq_true, half_fr]
  rw [cs_sub (F.fsz.mono (by omega)) (F.bsz.mono (by omega)), cs_mul ((F.fsz.sub F.bsz).mono (by omega)) (Sz.half (by omega))]
  exact h
theorem st_14 (A : AEnds) {s0 s1 s2 s3 s4 s5 s6 s7 s9 s10 s11 s12 s13 s14 s15 s16 s18 : Slot} {es : List Slot} (F : Ft pre post f top bot) (h : A.nx (s0 :: s1 :: s2 :: s3 :: s4 :: s5 :: s6 :: s7 :: .val (grs (pre ++ (zS, f) :: post) uS) :: s9 :: s10 :: s11 :: s12 :: s13 :: s14 :: s15 :: s16 :: .val (fr ((f - bot) * (1 / 2))) :: .val (grs (pre ++ (zS, f - (f - bot) * (1 / 2)) :: post) uS) :: es)) :
    S_law_14 A (s0 :: s1 :: s2 :: s3 :: s4 :: s5 :: s6 :: s7 :: .val (grs (pre ++ (zS, f) :: post) uS) :: s9 :: s10 :: s11 :: s12 :: s13 :: s14 :: s15 :: s16 :: .val (fr ((f - bot) * (1 / 2))) :: s18 :: es) := by
  have stz := F.stz
  have dn := F.down
  generalize (f - bot) * (1 / 2) = st at *
  have e : f - (0 - -st) = f - st := by grind
  have z := ci_Grades_moved (rows := pre ++ (zS, f) :: post) (last := uS) pre.length (p := (zS, f)) (c := -st) (Q := fun d => A.nx (s0 :: s1 :: s2 :: s3 :: s4 :: s5 :: s6 :: s7 :: .val (grs (pre ++ (zS, f) :: post) uS) :: s9 :: s10 :: s11 :: s12 :: s13 :: s14 :: s15 :: s16 :: .val (fr st) :: .val d :: es)) F.new (by simp) (stz.neg.mono (by omega)) (by rw [set_mid]; show Gr (pre ++ (zS, f - (0 - -st)) :: post) uS; rw [e]; exact dn) (by rw [set_mid]; show A.nx _; rw [e]; exact h)
  have zz : (D.str "z") = D.str zS := rfl
  simp only [S_law_14, wSet, wMeth, wCons, wNil, wVar, wTup, wC, wBin, List.getElem?_cons_zero, List.getElem?_cons_succ, List.set_cons_zero, List.set_cons_succ, List.map_cons, List.map_nil, List.cons_append, List.nil_append, List.length_cons, List.length_nil, List.replicate, Option.some.injEq, Slot.val.injEq, Slot.own.injEq, D.lst.injEq, exists_eq_left', exists_eq_left, exists_eq', true_and, and_true, Nat.reduceAdd, Nat.reduceSub, Nat.reduceLeDiff, Bool.false_eq_true, if_true, if_false, ↓reduceIte, Int.reduceMul, Int.reduceAdd, Int.reduceSub, Int.reduceNeg, Int.reduceLT, Int.reduceLE, Int.reduceEq, Nat.reduceMul, Nat.reduceLT, String.reduceEq, String.reduceNe, Int.reduceToNat, reduceCtorEq, Bool.not_true, Bool.not_false, Bool.true_or, Bool.or_true, Bool.false_or, Bool.or_false, Bool.true_and, Bool.and_true, Bool.false_and, Bool.and_false, Bool.not_eq_true', decide_eq_true_eq, decide_eq_false_iff_not, not_true_eq_false, not_false_eq_true, dIn, dNotIn, flatD, List.all_cons, List.all_nil, List.any_cons, List.any_nil, dInt2, dSub, dFdiv, dMod, dLt, dLe, dGt, dGe, dPow, dNeg, dAdd, dMul, dEq, dNe, dIsN, dNotN, isNon_non, isNon_bl, isNon_int, isNon_str, isNon_tup, isNon_lst, isNon_fr, deq_non_non, deq_non_bl, deq_non_int, deq_non_str, deq_non_tup, deq_non_lst, deq_bl_non, deq_bl_bl, deq_bl_str, deq_bl_tup, deq_bl_lst, deq_int_non, deq_int_int, deq_int_str, deq_int_tup, deq_int_lst, deq_str_non, deq_str_bl, deq_str_int, deq_str_str, deq_str_tup, deq_str_lst, deq_tup_non, deq_tup_bl, deq_tup_int, deq_tup_str, deq_tup_tup, deq_tup_lst, deq_lst_non, deq_lst_bl, deq_lst_int, deq_lst_str, deq_lst_tup, deq_lst_lst, deqs_nil, deqs_cons, deqs_nil_cons, deqs_cons_nil, deq_fr_non, deq_non_fr, plain_non, plain_bl, plain_int, plain_lit, plains_nil, plains_cons, plain_lst20, plain_tup20, plain_lst19, plain_tup19, plain_tup18, plain_fr19, plain_fr18, deqs_frs, plains_frs19, decide_true, decide_false, ix0, ix1, deq_fr, plain_fr20, fr_def, fr_neg, fr_neg', okStr_lit, beq_lit, bAbs, bMax2, bMin2, bInt, bGcd, bList, bTuple, ofString_inj, okM_moved, neg_fr, zz]
  exact z
theorem st_15 (A : AEnds) {s0 s1 s2 s3 s4 s5 s6 s7 s8 s9 s10 s11 s12 s13 s14 s15 s16 s19 : Slot} {es : List Slot} (F : Ft pre post f top bot) (h : A.nx (s0 :: s1 :: s2 :: s3 :: s4 :: s5 :: s6 :: s7 :: s8 :: s9 :: s10 :: s11 :: s12 :: s13 :: s14 :: s15 :: s16 :: .val (fr ((f - bot) * (1 / 2))) :: .val (grs (pre ++ (zS, f - (f - bot) * (1 / 2)) :: post) uS) :: .val (grs (pre ++ (zS, f) :: post) uS) :: es)) :
    S_law_15 A (s0 :: s1 :: s2 :: s3 :: s4 :: s5 :: s6 :: s7 :: s8 :: s9 :: s10 :: s11 :: s12 :: s13 :: s14 :: s15 :: s16 :: .val (fr ((f - bot) * (1 / 2))) :: .val (grs (pre ++ (zS, f - (f - bot) * (1 / 2)) :: post) uS) :: s19 :: es) := by
  have stz := F.stz
  have dn := F.down
  generalize (f - bot) * (1 / 2) = st at *
  have e : f - st - (0 - st) = f := by grind
  have z := ci_Grades_moved (rows := pre ++ (zS, f - st) :: post) (last := uS) pre.length (p := (zS, f - st)) (c := st) (Q := fun d => A.nx (s0 :: s1 :: s2 :: s3 :: s4 :: s5 :: s6 :: s7 :: s8 :: s9 :: s10 :: s11 :: s12 :: s13 :: s14 :: s15 :: s16 :: .val (fr st) :: .val (grs (pre ++ (zS, f - st) :: post) uS) :: .val d :: es)) dn (by simp) (stz.mono (by omega)) (by rw [set_mid]; show Gr (pre ++ (zS, f - st - (0 - st)) :: post) uS; rw [e]; exact F.new) (by rw [set_mid]; show A.nx _; rw [e]; exact h)
  have zz : (D.str "z") = D.str zS := rfl
  simp only [S_law_15, wSet, wMeth, wCons, wNil, wVar, wC, List.getElem?_cons_zero, List.getElem?_cons_succ, List.set_cons_zero, List.set_cons_succ, List.map_cons, List.map_nil, List.cons_append, List.nil_append, List.length_cons, List.length_nil, List.replicate, Option.some.injEq, Slot.val.injEq, Slot.own.injEq, D.lst.injEq, exists_eq_left', exists_eq_left, exists_eq', true_and, and_true, Nat.reduceAdd, Nat.reduceSub, Nat.reduceLeDiff, Bool.false_eq_true, if_true, if_false, ↓reduceIte, Int.reduceMul, Int.reduceAdd, Int.reduceSub, Int.reduceNeg, Int.reduceLT, Int.reduceLE, Int.reduceEq, Nat.reduceMul, Nat.reduceLT, String.reduceEq, String.reduceNe, Int.reduceToNat, reduceCtorEq, Bool.not_true, Bool.not_false, Bool.true_or, Bool.or_true, Bool.false_or, Bool.or_false, Bool.true_and, Bool.and_true, Bool.false_and, Bool.and_false, Bool.not_eq_true', decide_eq_true_eq, decide_eq_false_iff_not, not_true_eq_false, not_false_eq_true, okM_moved, zz]
  exact z
theorem deq_gr (p q : Str × Rat) : deq (gr p) (gr q) = decide (p = q) := by
  simp only [gr, deq_tup_tup, deqs_cons, deqs_nil, deq_fr, deq_str, Bool.and_true]
  obtain ⟨a, b⟩ := p
  obtain ⟨c, d⟩ := q
  by_cases e1 : a = c <;> by_cases e2 : b = d <;> simp [e1, e2]
theorem plain_gr (n : Nat) (p : Str × Rat) (h : okStr p.1 = true) : plain (n + 2) (gr p) = true := by
  have : plain (n + 1) (D.str p.1) = true := h
  simp only [gr, plain_tup, plains_cons, plain_fr n, plains_nil, this, Bool.and_true]
theorem plains_grs {rows : Rws} {last : Str} (G : Gr rows last) (n : Nat) : plains (n + 2) (rows.map gr) = true := plains_all fun x hx => by
  obtain ⟨p, hp, rfl⟩ := List.mem_map.mp hx
  exact plain_gr n p (G.ok _ (by unfold nms; rw [List.mem_append]; exact .inl (List.mem_map.mpr ⟨p, hp, rfl⟩)))
theorem plains_nms {rows : Rws} {last : Str} (G : Gr rows last) (n : Nat) : plains n ((nms rows last).map D.str) = true := plains_all fun x hx => by
  obtain ⟨p, hp, rfl⟩ := List.mem_map.mp hx
  have := G.ok _ hp
  cases n <;> exact this
theorem st_16 (A : AEnds) {s0 s1 s2 s4 s5 s7 s9 s10 s11 s12 s13 s14 s15 s16 : Slot} {es : List Slot} (F : Ft pre post f top bot) (h : A.rt (.bl true)) :
    S_law_16 A (s0 :: s1 :: s2 :: .val (.int (pre.length : Nat)) :: s4 :: s5 :: .val (fr f) :: s7 :: .val (grs (pre ++ (zS, f) :: post) uS) :: s9 :: s10 :: s11 :: s12 :: s13 :: s14 :: s15 :: s16 :: .val (fr ((f - bot) * (1 / 2))) :: .val (grs (pre ++ (zS, f - (f - bot) * (1 / 2)) :: post) uS) :: .val (grs (pre ++ (zS, f) :: post) uS) :: es) := by
  have stz := F.stz
  have dn := F.down
  have N := F.new
  have fz := F.fsz
  generalize (f - bot) * (1 / 2) = st at *
  have zz : (D.str "z") = D.str zS := rfl
  have p1 : plains 19 ((pre ++ (zS, f) :: post).map gr) = true := plains_grs N 17
  have en : nms (pre ++ (zS, f - st) :: post) uS = nms (pre ++ (zS, f) :: post) uS := by simp [nms]
  have p2 : plains 19 ((nms (pre ++ (zS, f) :: post) uS).map D.str) = true := plains_nms N 19
  have q1 : deqs ((pre ++ (zS, f) :: post).map gr) ((pre ++ (zS, f) :: post).map gr) = true := by rw [deqs_map deq_gr]; simp
  have q2 : deqs ((nms (pre ++ (zS, f) :: post) uS).map D.str) ((nms (pre ++ (zS, f) :: post) uS).map D.str) = true := by rw [deqs_map deq_str]; simp
  have ix : ∀ Q : D → Prop, dIx (.tup ((pre ++ (zS, f - st) :: post).map gr)) (.int (pre.length : Nat)) Q = Q (gr (zS, f - st)) := fun Q => ix_grT Q (by omega) (by simp)
  have sb : ∀ Q : D → Prop, φ_l_sub [fr f, fr st] Q = Q (fr (f - st)) := fun Q => cs_sub (fz.mono (by omega)) (stz.mono (by omega))
  have gg : D.tup [.str zS, fr (f - st)] = gr (zS, f - st) := rfl
  have p3 : plain 20 (gr (zS, f - st)) = true := plain_gr 18 _ (okStr_lit _)
  have p4 : plains 19 [D.str zS, fr (f - st)] = true := p3
  simp only [S_law_16, wRet, wAndV, wCall, wBin, wMeth, wFld, wTup, wCons, wNil, wVar, wC, List.getElem?_cons_zero, List.getElem?_cons_succ, List.set_cons_zero, List.set_cons_succ, List.map_cons, List.map_nil, List.cons_append, List.nil_append, List.length_cons, List.length_nil, List.replicate, Option.some.injEq, Slot.val.injEq, Slot.own.injEq, D.lst.injEq, exists_eq_left', exists_eq_left, exists_eq', true_and, and_true, Nat.reduceAdd, Nat.reduceSub, Nat.reduceLeDiff, Bool.false_eq_true, if_true, if_false, ↓reduceIte, Int.reduceMul, Int.reduceAdd, Int.reduceSub, Int.reduceNeg, Int.reduceLT, Int.reduceLE, Int.reduceEq, Nat.reduceMul, Nat.reduceLT, String.reduceEq, String.reduceNe, Int.reduceToNat, reduceCtorEq, Bool.not_true, Bool.not_false, Bool.true_or, Bool.or_true, Bool.false_or, Bool.or_false, Bool.true_and, Bool.and_true, Bool.false_and, Bool.and_false, Bool.not_eq_true', decide_eq_true_eq, decide_eq_false_iff_not, not_true_eq_false, not_false_eq_true, fld_rows, okM_names, cl_Grades_names, dn, N, cl_l_is, plain_tup20, p1, notBl_tup, deq_tup_tup, q1, en, dEq, plain_lst20, p2, deq_lst_lst, q2, dBool, ix, sb, zz, gg, p3, p4, deq_gr, decide_true]
  exact h
end
theorem r_law : F_law AEnds.law (.non :: .val .tape :: List.replicate (22 - 2) .non) := by
  show R_law_0 AEnds.law [.non, .val .tape, .non, .non, .non, .non, .non, .non, .non, .non, .non, .non, .non, .non, .non, .non, .non, .non, .non, .non, .non, .non]
  refine st_0 _ fun rows d => st_1 _ d fun pre post e => ?_
  subst e
  refine st_2 _ (st_3 _ (st_4 _ d fun f F => st_5 _ F (st_6 _ F fun ms m => st_7 _ F m (st_8 _ F m (st_9 _ F m fun _ _ _ _ => st_10 _ F m (st_11 _ F m (st_12 _ F m (st_13 _ F (st_14 _ F (st_15 _ F (st_16 _ F rfl)))))))))))

end Pl
end

section
set_option Elab.async false
set_option linter.all false
set_option maxRecDepth 100000
set_option maxHeartbeats 1000000
set_option autoImplicit false
namespace Pl
open PySem PySem.Spec PyProof.Rows L2
def top (i : Nat) : Stmt := PySem.Challenge.pw_fairmarks_k41_grades_cut_finer.main.body.getD i (.Pass ⟨0, 0, 0, 0⟩)
def mem (i j : Nat) : Stmt := match top i with
  | .ClassDef _ _ _ body _ _ _ _ _ _ _ => body.getD j (.Pass ⟨0, 0, 0, 0⟩)
  | st => st
abbrev s_l_draw : Stmt := top 16
abbrev s_l_tape : Stmt := top 17
abbrev s_less : Stmt := top 10
abbrev s_Grades_init : Stmt := mem 13 0
abbrev s_Grades_names : Stmt := mem 13 1
abbrev s_Grades_grade : Stmt := mem 13 2
abbrev s_Grades_place : Stmt := mem 13 3
abbrev s_Grades_counts : Stmt := mem 13 4
abbrev s_Grades_at_least : Stmt := mem 13 5
abbrev s_fraction : Stmt := top 8
abbrev s_minus : Stmt := top 9
abbrev s_Grades_to_next : Stmt := mem 13 6
abbrev s_Grades_over_edge : Stmt := mem 13 7
abbrev s_Grades_moved : Stmt := mem 13 9
abbrev s_regraded : Stmt := top 14
abbrev s_l_is : Stmt := top 18
abbrev s_l_mod : Stmt := top 19
abbrev s_l_gcd : Stmt := top 20
abbrev s_l_frac : Stmt := top 21
abbrev s_l_add : Stmt := top 22
abbrev s_l_sub : Stmt := top 23
abbrev s_l_mul : Stmt := top 24
abbrev s_l_lt : Stmt := top 25
abbrev s_l_fraction : Stmt := top 26
abbrev s_l_ladder : Stmt := top 27
abbrev s_law : Stmt := top 28
structure Txt (K : PySem.W.Frag) (mg : Str → Option Value) : Prop where
  f_l_draw : Fnx K mg "_law_draw" s_l_draw
  f_l_tape : Fnx K mg "_law_tape" s_l_tape
  f_less : Fnx K mg "less" s_less
  m_Grades_init : Mth K "Grades" "__init__" "Grades.__init__" s_Grades_init
  m_Grades_names : Mth K "Grades" "names" "Grades.names" s_Grades_names
  h_Grades_names : Meth K (He.ga K "Grades") "names" (He.ma K (He.ga K "Grades") "names")
  m_Grades_grade : Mth K "Grades" "grade" "Grades.grade" s_Grades_grade
  h_Grades_grade : Meth K (He.ga K "Grades") "grade" (He.ma K (He.ga K "Grades") "grade")
  m_Grades_place : Mth K "Grades" "place" "Grades.place" s_Grades_place
  h_Grades_place : Meth K (He.ga K "Grades") "place" (He.ma K (He.ga K "Grades") "place")
  m_Grades_counts : Mth K "Grades" "counts" "Grades.counts" s_Grades_counts
  h_Grades_counts : Meth K (He.ga K "Grades") "counts" (He.ma K (He.ga K "Grades") "counts")
  m_Grades_at_least : Mth K "Grades" "at_least" "Grades.at_least" s_Grades_at_least
  h_Grades_at_least : Meth K (He.ga K "Grades") "at_least" (He.ma K (He.ga K "Grades") "at_least")
  f_fraction : Fnx K mg "fraction" s_fraction
  f_minus : Fnx K mg "minus" s_minus
  m_Grades_to_next : Mth K "Grades" "to_next" "Grades.to_next" s_Grades_to_next
  h_Grades_to_next : Meth K (He.ga K "Grades") "to_next" (He.ma K (He.ga K "Grades") "to_next")
  m_Grades_over_edge : Mth K "Grades" "over_edge" "Grades.over_edge" s_Grades_over_edge
  h_Grades_over_edge : Meth K (He.ga K "Grades") "over_edge" (He.ma K (He.ga K "Grades") "over_edge")
  m_Grades_moved : Mth K "Grades" "moved" "Grades.moved" s_Grades_moved
  h_Grades_moved : Meth K (He.ga K "Grades") "moved" (He.ma K (He.ga K "Grades") "moved")
  f_regraded : Fnx K mg "regraded" s_regraded
  f_l_is : Fnx K mg "_law_is" s_l_is
  f_l_mod : Fnx K mg "_law_mod" s_l_mod
  f_l_gcd : Fnx K mg "_law_gcd" s_l_gcd
  f_l_frac : Fnx K mg "_law_frac" s_l_frac
  f_l_add : Fnx K mg "_law_add" s_l_add
  f_l_sub : Fnx K mg "_law_sub" s_l_sub
  f_l_mul : Fnx K mg "_law_mul" s_l_mul
  f_l_lt : Fnx K mg "_law_lt" s_l_lt
  f_l_fraction : Fnx K mg "_law_fraction" s_l_fraction
  f_l_ladder : Fnx K mg "_law_ladder" s_l_ladder
  cl_Grades : Cls K (He.ga K "Grades")
  k_Grades : Cla K mg "Grades"
  na_Grades_rows : NoAttr K (He.ga K "Grades") "rows"
  na_Grades_last : NoAttr K (He.ga K "Grades") "last"
  b_gcd : mg "gcd" = some (.builtin "math.gcd")
  c_ZERO : Cst K mg "ZERO" c_ZERO
  c_GRADES_MOST : CstI mg "GRADES_MOST" 60
  n_abs : mg "abs" = none
  n_all : mg "all" = none
  n_bool : mg "bool" = none
  n_enumerate : mg "enumerate" = none
  n_int : mg "int" = none
  n_isinstance : mg "isinstance" = none
  n_len : mg "len" = none
  n_list : mg "list" = none
  n_range : mg "range" = none
  n_set : mg "set" = none
  n_str : mg "str" = none
  n_sum : mg "sum" = none
  n_tuple : mg "tuple" = none
theorem scDraw : FnScope ["tape", "many", "cells", "k", "cell", "digit"] ["tape", "many"] (defScope s_l_draw) := ⟨rfl, rfl, rfl, by decide +kernel, rfl, by decide +kernel, by decide +kernel⟩
theorem scTape : FnScope ["script", "mix", "cell"] ["script"] (defScope s_l_tape) := ⟨rfl, rfl, rfl, by decide +kernel, rfl, by decide +kernel, by decide +kernel⟩
section
variable {P : Program} {w : World} {K : PySem.W.Frag} {mg : Str → Option Value} {base : Heap}
theorem kn_draw (F : Fnx K mg "_law_draw" s_l_draw) (mL : mg "len" = none) (mI : mg "int" = none) : Kn P w K mg base 1 "_law_draw" (spP K φ_l_draw) := by
  obtain ⟨f, fd, F, hm⟩ := F.ex
  refine ⟨f, fd, ["tape", "many"], F.ok scDraw ?_ ?_, hm, F.kp, F.bindsN fun _ _ _ _ _ _ us hl => match us, hl with | [_, _], _ => rfl⟩
  · rintro vs H Q E ⟨T, M, ds, Qd, wd, r, q, _⟩
    rw [r.length]
    unfold φ_l_draw at q
    split at q
    · rfl
    · exact q.elim
  · rintro cdv A outer s H vs Q E hr ⟨T, M, ds, Qd, wd, r, q, kk⟩
    unfold φ_l_draw at q
    split at q
    · rename_i many
      obtain ⟨⟨m0, m1⟩, q⟩ := q
      obtain ⟨v1, us, rfl, r1, r2⟩ := r.inv_cons
      obtain ⟨v2, us2, rfl, r3, r4⟩ := r2.inv_cons
      cases r4.inv_nil
      cases r1
      cases r3
      obtain ⟨k, acc, mix, cells, hT, hC, nM, k0, a0, x0⟩ := wd.tape
      have ne : T.c ≠ T.t := fun z => nM (by rw [z]; exact wd.mT)
      let I1 : L2.St → Hp → Prop := fun σ H' => ∃ c : Int, σ = [some (.ref T.t), some (.int many), some (.ref T.c), some (.int k), some (.int c), none] ∧ H' = H ∧ 0 ≤ c
      refine ⟨_, PSs.nox (pss_cons (ps_cut (fun σ H' => ∃ x y z, σ = [some (.ref T.t), some (.int many), x, y, z, none] ∧ DrawI K T H H') (ps_if (pt_cmpR op_lt (pe_ix ix_list (pv 0) pe_int (fun _ _ => rfl)) (pv 1) (nomark _))
          (pss_cons (ps_set (i := 2) scDraw.nd rfl (Or.inl rfl) (pe_ix ix_list (pv 0) pe_int (fun _ _ => rfl)))
          (pss_cons (ps_set (i := 3) scDraw.nd rfl (Or.inl rfl) (pe_ix ix_list (pv 0) pe_int (fun _ _ => rfl)))
          (pss_cons (ps_cut (fun σ H' => ∃ c : Int, σ = [some (.ref T.t), some (.int many), some (.ref T.c), some (.int k), some (.int c), none] ∧ H' = H) (ps_set (i := 4) scDraw.nd rfl (Or.inl rfl) (pe_ifExp (pt_cmpR op_lt (pv 3) (pe_callB call_len_seq (by rfl) mL PySem.boot_len (pa_cons (pv 2) pa_nil)) (nomark _)) (pe_ix ix_list (pv 2) (pv 3) (fun _ _ => rfl)) (pe_ix ix_list (pv 0) pe_int (fun _ _ => rfl)))))
          (pss_cons (ps_cut I1 (ps_if (pt_cmpR op_lt (pv 4) pe_int (nomark _)) (pss_one (ps_set (i := 4) scDraw.nd rfl (Or.inl rfl) (pe_op op_sub (pe_op op_mul (pe_un un_neg pe_int) (pv 4)) pe_int))) pss_nil))
          (pss_cons (ps_cut I1 (ps_if (PW.pt (pw_or (pt_cmpR op_lt (pv 4) (pe_op op_pow pe_int pe_int) (nomark _)) (pw_or1 (pt_cmpR op_ge (pv 3) (pe_callB call_len_seq (by rfl) mL PySem.boot_len (pa_cons (pv 2) pa_nil)) (nomark _)))))
            (pss_cons (ps_set (i := 4) scDraw.nd rfl (Or.inl rfl) (pe_op op_mod (pe_callTy call_int1 (by rfl) mI (by decide +kernel) (pa_cons (pe_op op_add (pe_op op_add (pe_op op_mul (pv 4) pe_int) (pe_op op_mul (pv 3) pe_int)) pe_int) pa_nil)) pe_int))
            (pss_one (ps_set (i := 4) scDraw.nd rfl (Or.inl rfl) (pe_op op_mod (pe_callTy call_int1 (by rfl) mI (by decide +kernel) (pa_cons (pe_op op_add (pe_op op_add (pe_op op_mul (pv 4) (pv 4)) (pe_op op_mul (pv 3) pe_int)) pe_int) pa_nil)) pe_int)))) pss_nil))
          (pss_cons (ps_asg (pe_op op_add (pv 3) pe_int) (pg_sub (pv 0) pe_int set_list))
          (pss_one (ps_asg (pv 4) (pg_sub (pv 0) pe_int set_list))))))))) pss_nil))
        (pss_cons (ps_set (i := 5) scDraw.nd rfl (Or.inl rfl) (pe_op op_mod (pe_callTy call_int1 (by rfl) mI (by decide +kernel) (pa_cons (pe_ix ix_list (pv 0) pe_int (fun _ _ => rfl)) pa_nil)) (pv 1)))
        (pss_cons (ps_asg (pe_op op_fdiv (pe_ix ix_list (pv 0) pe_int (fun _ _ => rfl)) (pv 1)) (pg_sub (pv 0) pe_int set_list))
        (pss_one (ps_ret (pv 5)))))), ?_⟩
      refine ⟨?_, ?_⟩
      · refine ⟨_, rfl, _, _, _, _, rfl, rfl, SqL.of hT, rfl, _, rfl, _, _, rfl, rfl, _, rfl, ?_⟩
        refine ite2 (fun _ => ?_) (fun _ => ?_)
        · refine ⟨_, rfl, _, _, _, _, rfl, rfl, SqL.of hT, rfl, ?_⟩
          refine ⟨_, rfl, _, _, _, _, rfl, rfl, SqL.of hT, rfl, ?_⟩
          refine ⟨?_, ?_⟩
          · refine ⟨_, rfl, _, rfl, _, _, rfl, .inl (SqL.of hC), _, _, rfl, rfl, _, rfl, ?_⟩
            refine ite2 (fun lt => ?_) (fun _ => ?_)
            · have lt : k < ((cells.map V.int).length : Nat) := by simpa using lt
              obtain ⟨kn, rfl⟩ := Int.eq_ofNat_of_zero_le k0
              have lt2 : kn < cells.length := by simpa using lt
              exact ⟨_, rfl, _, rfl, _, _, _, .int (cells[kn]), rfl, rfl, SqL.of hC, atI_nat (by simp [lt2]), _, rfl, rfl⟩
            · exact ⟨_, rfl, _, _, _, .int mix, rfl, rfl, SqL.of hT, rfl, _, rfl, rfl⟩
          rintro σ' H' ⟨c, rfl, rfl⟩
          refine ⟨?_, ?_⟩
          · refine ⟨_, rfl, _, _, rfl, rfl, _, rfl, ?_⟩
            refine ite2 (fun lt => ?_) (fun ge => ?_)
            · have lt : c < 0 := by simpa using lt
              exact ⟨_, rfl, _, rfl, _, _, rfl, rfl, .inl ⟨by decide, by decide⟩, _, _, rfl, rfl, _, rfl, rfl, by omega⟩
            · have ge : ¬ c < 0 := by simpa using ge
              exact ⟨c, rfl, rfl, by omega⟩
          rintro σ' H' ⟨c, rfl, rfl, c0⟩
          refine ⟨?_, ?_⟩
          · refine ⟨_, rfl, _, _, rfl, rfl, ⟨by decide, by decide, by decide⟩, _, _, rfl, rfl, _, rfl, ?_⟩
            have m1 : (0 : Int) < 2147483647 := by decide
            have m2 : (0 : Int) < 2147483629 := by decide
            refine ite2 (fun _ => iteT ?_) (fun _ => ?_)
            · refine ⟨_, rfl, _, _, rfl, rfl, .inr ⟨by decide, by decide⟩, _, rfl, _, _, rfl, rfl, .inr ⟨by decide, by decide⟩, _, _, rfl, rfl, _, _, rfl, rfl, .inl ⟨_, rfl, _, _, rfl, rfl, m1, ?_⟩⟩
              have b1 := Int.emod_nonneg (c * 48271 + k * 69621 + 12345) (show (2147483647 : Int) ≠ 0 by decide)
              have b2 := Int.emod_lt_of_pos (c * 48271 + k * 69621 + 12345) m1
              refine ⟨_, rfl, _, rfl, _, _, rfl, rfl, .inl ⟨by omega, by omega⟩, _, rfl, _, _, rfl, rfl, .inr ⟨by decide, by decide⟩, _, _, rfl, rfl, _, _, rfl, rfl, .inl ⟨_, rfl, _, _, rfl, rfl, m2, ?_⟩⟩
              exact ⟨_, rfl, rfl, Int.emod_nonneg _ (by decide)⟩
            · refine ⟨_, rfl, _, rfl, _, _, rfl, .inl (SqL.of hC), _, _, rfl, rfl, _, rfl, ?_⟩
              refine ite2 (fun _ => ?_) (fun _ => ?_)
              · refine ⟨_, rfl, _, _, rfl, rfl, .inr ⟨by decide, by decide⟩, _, rfl, _, _, rfl, rfl, .inr ⟨by decide, by decide⟩, _, _, rfl, rfl, _, _, rfl, rfl, .inl ⟨_, rfl, _, _, rfl, rfl, m1, ?_⟩⟩
                have b1 := Int.emod_nonneg (c * 48271 + k * 69621 + 12345) (show (2147483647 : Int) ≠ 0 by decide)
                have b2 := Int.emod_lt_of_pos (c * 48271 + k * 69621 + 12345) m1
                refine ⟨_, rfl, _, rfl, _, _, rfl, rfl, .inl ⟨by omega, by omega⟩, _, rfl, _, _, rfl, rfl, .inr ⟨by decide, by decide⟩, _, _, rfl, rfl, _, _, rfl, rfl, .inl ⟨_, rfl, _, _, rfl, rfl, m2, ?_⟩⟩
                exact ⟨_, rfl, rfl, Int.emod_nonneg _ (by decide)⟩
              · exact ⟨c, rfl, rfl, c0⟩
          rintro σ' H' ⟨c, rfl, rfl, c0⟩
          refine ⟨_, rfl, _, _, rfl, rfl, _, rfl, _, _, _, 1, rfl, rfl, hT, rfl, ?_⟩
          refine ⟨_, rfl, _, rfl, _, _, _, 2, rfl, rfl, upd_same, rfl, ?_⟩
          refine ⟨_, _, _, rfl, k + 1, c, mix, cells, upd_same, by rw [upd_ne ne, upd_ne ne]; exact hC, by omega, c0, x0, fun a o n e => by rw [upd_ne n, upd_ne n]; exact e⟩
        · exact ⟨_, _, _, rfl, k, acc, mix, cells, hT, hC, k0, a0, x0, fun _ _ _ e => e⟩
      · rintro σ' H' ⟨x, y, z, rfl, k, acc, mix, cells, hT, hC, k0, a0, x0, kp⟩
        refine ⟨_, rfl, _, _, _, _, rfl, rfl, SqL.of hT, rfl, .inl ⟨_, rfl, _, rfl, _, _, rfl, rfl, m0, ?_⟩⟩
        refine ⟨_, rfl, _, _, _, _, rfl, rfl, SqL.of hT, rfl, _, rfl, _, _, rfl, rfl, ⟨m0, m1⟩, _, rfl, _, _, _, 2, rfl, rfl, hT, rfl, ?_⟩
        refine ⟨_, rfl, ?_⟩
        refine kk (.int (acc % many)) _ _ (q _ (Int.emod_nonneg _ (by omega)) (Int.emod_lt_of_pos _ m0)) ⟨fun a o n e => ?_, ?_⟩ (.int _)
        · rw [upd_ne n]; exact kp a o n e
        · exact ⟨k, acc / many, mix, cells, upd_same, by rw [upd_ne ne]; exact hC, nM, k0, Int.ediv_nonneg a0 (by omega), x0⟩
    · exact q.elim
theorem kn_tape (F : Fnx K mg "_law_tape" s_l_tape) (mL : mg "len" = none) (mI : mg "int" = none) (mS : mg "list" = none) : Kn P w K mg base 1 "_law_tape" (spTape K) := by
  obtain ⟨f, fd, F, hm⟩ := F.ex
  refine ⟨f, fd, ["script"], F.ok scTape ?_ ?_, hm, F.kp, F.bindsN fun _ _ _ _ _ _ us hl => match us, hl with | [_], _ => rfl⟩
  · rintro vs H Q E ⟨a, ns, rfl, _⟩
    rfl
  · rintro cdv A outer s H vs Q E hr ⟨a, ns, rfl, hS, kk⟩
    refine ⟨_, PSs.nox (pss_cons (ps_set (i := 1) scTape.nd rfl (Or.inl rfl) (pe_callB call_len_seq (by rfl) mL PySem.boot_len (pa_cons (pv 0) pa_nil)))
      (pss_cons (ps_for PassesOwn.never rfl (pi_list (pv 0)) (pg_name (i := 2) scTape.nd rfl (Or.inl rfl))
        (pss_one (ps_set (i := 1) scTape.nd rfl (Or.inl rfl) (pe_op op_mod (pe_callTy call_int1 (by rfl) mI (by decide +kernel) (pa_cons (pe_op op_add (pe_op op_add (pe_op op_mul (pv 1) pe_int) (pe_op op_mul (pv 2) pe_int)) pe_int) pa_nil)) pe_int))))
      (pss_one (ps_ret (pe_lst (pa_cons (pe_callTy call_list_of (by rfl) mS (by decide +kernel) (pa_cons (pv 0) pa_nil)) (pa_cons pe_int (pa_cons pe_int (pa_cons (pv 1) pa_nil))))))))), ?_⟩
    refine ⟨_, rfl, a, _, rfl, .inl hS, ?_⟩
    refine ⟨_, rfl, a, rfl, ⟨_, hS⟩, for_list (K := K) (a := a) (xs := ns.map V.int) (fun i σ H' => ∃ (mix : Int) (v : Option V), σ = [some (.ref a), some (.int mix), v] ∧ H' = H ∧ 0 ≤ mix) ⟨_, _, rfl, rfl, by omega⟩ (fun i σ H' _ ⟨_, _, _, e, _⟩ => by rw [e]; exact hS) ?_ ?_⟩
    · rintro i y σ H' hi ⟨mix, v, rfl, rfl, m0⟩
      obtain ⟨u, rfl⟩ : ∃ u, y = V.int u := by
        rw [List.getElem?_map] at hi
        cases e : ns[i]? with
        | none => rw [e] at hi; cases hi
        | some u => rw [e] at hi; exact ⟨u, (Option.some.inj hi).symm⟩
      refine ⟨_, rfl, _, _, rfl, rfl, .inr ⟨by decide, by decide⟩, _, rfl, _, _, rfl, rfl, .inr ⟨by decide, by decide⟩, _, _, rfl, rfl, _, _, rfl, rfl, .inl ⟨_, rfl, _, _, rfl, rfl, (by show (0 : Int) < 1000000007; decide), ?_⟩⟩
      exact ⟨_, _, rfl, rfl, Int.emod_nonneg _ (by decide)⟩
    · rintro σ H' ⟨mix, v, rfl, rfl, m0⟩
      refine ⟨_, rfl, a, _, rfl, .inl hS, fun c hc => ?_⟩
      refine ⟨_, rfl, (by show 4 ≤ sizeLine; decide), fun t ht => ?_⟩
      have hct : c ≠ t := fun z => by rw [z, upd_same] at ht; cases ht
      have ht2 : H' t = none := by rw [upd_ne (Ne.symm hct)] at ht; exact ht
      refine kk _ { t := t, c := c } mix (fun b o e => ?_) hct upd_same ?_ m0
      · rw [upd_ne (ne_of_none e ht2), upd_ne (ne_of_none e hc)]; exact e
      · show upd _ t _ c = _
        rw [upd_ne hct, upd_same]
end
theorem sc_less : FnScope ["a", "b"] ["a", "b"] (defScope s_less) := ⟨rfl, rfl, rfl, by decide +kernel, rfl, by decide +kernel, by decide +kernel⟩
theorem sc_Grades_init : FnScope ["self", "rows", "last", "names", "least", "name", "k"] ["self", "rows", "last"] (defScope s_Grades_init) := ⟨rfl, rfl, rfl, by decide +kernel, rfl, by decide +kernel, by decide +kernel⟩
theorem sc_Grades_names : FnScope ["self", "least", "name"] ["self"] (defScope s_Grades_names) := ⟨rfl, rfl, rfl, by decide +kernel, rfl, by decide +kernel, by decide +kernel⟩
theorem sc_Grades_grade : FnScope ["self", "mark", "name", "least"] ["self", "mark"] (defScope s_Grades_grade) := ⟨rfl, rfl, rfl, by decide +kernel, rfl, by decide +kernel, by decide +kernel⟩
theorem sc_Grades_place : FnScope ["self", "grade"] ["self", "grade"] (defScope s_Grades_place) := ⟨rfl, rfl, rfl, by decide +kernel, rfl, by decide +kernel, by decide +kernel⟩
theorem sc_Grades_counts : FnScope ["self", "marks", "grades", "mark", "name"] ["self", "marks"] (defScope s_Grades_counts) := ⟨rfl, rfl, rfl, by decide +kernel, rfl, by decide +kernel, by decide +kernel⟩
theorem sc_Grades_at_least : FnScope ["self", "marks", "found", "count"] ["self", "marks"] (defScope s_Grades_at_least) := ⟨rfl, rfl, rfl, by decide +kernel, rfl, by decide +kernel, by decide +kernel⟩
theorem sc_fraction : FnScope ["top", "bottom", "common"] ["top", "bottom"] (defScope s_fraction) := ⟨rfl, rfl, rfl, by decide +kernel, rfl, by decide +kernel, by decide +kernel⟩
theorem sc_minus : FnScope ["a", "b"] ["a", "b"] (defScope s_minus) := ⟨rfl, rfl, rfl, by decide +kernel, rfl, by decide +kernel, by decide +kernel⟩
theorem sc_Grades_to_next : FnScope ["self", "mark", "place"] ["self", "mark"] (defScope s_Grades_to_next) := ⟨rfl, rfl, rfl, by decide +kernel, rfl, by decide +kernel, by decide +kernel⟩
theorem sc_Grades_over_edge : FnScope ["self", "mark", "place"] ["self", "mark"] (defScope s_Grades_over_edge) := ⟨rfl, rfl, rfl, by decide +kernel, rfl, by decide +kernel, by decide +kernel⟩
theorem sc_Grades_moved : FnScope ["self", "grade", "change", "place", "rows"] ["self", "grade", "change"] (defScope s_Grades_moved) := ⟨rfl, rfl, rfl, by decide +kernel, rfl, by decide +kernel, by decide +kernel⟩
theorem sc_regraded : FnScope ["grades", "others", "marks", "mark", "place"] ["grades", "others", "marks"] (defScope s_regraded) := ⟨rfl, rfl, rfl, by decide +kernel, rfl, by decide +kernel, by decide +kernel⟩
theorem sc_l_is : FnScope ["told", "due"] ["told", "due"] (defScope s_l_is) := ⟨rfl, rfl, rfl, by decide +kernel, rfl, by decide +kernel, by decide +kernel⟩
theorem sc_l_mod : FnScope ["a", "n"] ["a", "n"] (defScope s_l_mod) := ⟨rfl, rfl, rfl, by decide +kernel, rfl, by decide +kernel, by decide +kernel⟩
theorem sc_l_gcd : FnScope ["a", "b", "k"] ["a", "b"] (defScope s_l_gcd) := ⟨rfl, rfl, rfl, by decide +kernel, rfl, by decide +kernel, by decide +kernel⟩
theorem sc_l_frac : FnScope ["upper", "lower", "common"] ["upper", "lower"] (defScope s_l_frac) := ⟨rfl, rfl, rfl, by decide +kernel, rfl, by decide +kernel, by decide +kernel⟩
theorem sc_l_add : FnScope ["a", "b"] ["a", "b"] (defScope s_l_add) := ⟨rfl, rfl, rfl, by decide +kernel, rfl, by decide +kernel, by decide +kernel⟩
theorem sc_l_sub : FnScope ["a", "b"] ["a", "b"] (defScope s_l_sub) := ⟨rfl, rfl, rfl, by decide +kernel, rfl, by decide +kernel, by decide +kernel⟩
theorem sc_l_mul : FnScope ["a", "b"] ["a", "b"] (defScope s_l_mul) := ⟨rfl, rfl, rfl, by decide +kernel, rfl, by decide +kernel, by decide +kernel⟩
theorem sc_l_lt : FnScope ["a", "b"] ["a", "b"] (defScope s_l_lt) := ⟨rfl, rfl, rfl, by decide +kernel, rfl, by decide +kernel, by decide +kernel⟩
theorem sc_l_fraction : FnScope ["tape", "most", "lower"] ["tape", "most"] (defScope s_l_fraction) := ⟨rfl, rfl, rfl, by decide +kernel, rfl, by decide +kernel, by decide +kernel⟩
theorem sc_l_ladder : FnScope ["tape", "top", "many", "k"] ["tape", "top"] (defScope s_l_ladder) := ⟨rfl, rfl, rfl, by decide +kernel, rfl, by decide +kernel, by decide +kernel⟩
theorem sc_law : FnScope ["script", "tape", "rows", "k", "top", "bottom", "fresh", "grades", "finer", "marks", "inside", "n", "next_one", "above", "place", "counts", "more", "step", "moved", "back", "least", "name"] ["script"] (defScope s_law) := ⟨rfl, rfl, rfl, by decide +kernel, rfl, by decide +kernel, by decide +kernel⟩
section
variable {P : Program} {w : World} {K : PySem.W.Frag} {mg : Str → Option Value} {base : Heap}
set_option maxHeartbeats 4000000 in
theorem kn_less (T : Txt K mg)  : Kn P w K mg base 1 "less" (spP K φ_less) := by
  have nd := sc_less.nd
  refine kn_of T.f_less sc_less (fun _ _ _ _ _ _ us hl => match us, hl with | [_, _], _ => rfl) len_less (Fb := F_less) (fun f cdv A outer s H E hr => ?_) r_less
  exact (pps_one (pp_ret (pp_cmp op_lt a_lt (pb (pp_op op_mulA a_mul (pb (pp_ix ix_seq a_ix (pb (pp_var 0)) (pb pp_int))) (pb (pp_ix ix_seq a_ix (pb (pp_var 1)) (pb pp_int))))) (pb (pp_op op_mulA a_mul (pb (pp_ix ix_seq a_ix (pb (pp_var 1)) (pb pp_int))) (pb (pp_ix ix_seq a_ix (pb (pp_var 0)) (pb pp_int))))) (nomark _))))
set_option maxHeartbeats 4000000 in
theorem kn_Grades_init (T : Txt K mg) (k_less : Kn P w K mg base 1 "less" (spP K φ_less)) : KnI P w K mg base 2 "Grades" φ_Grades_init := by
  have nd := sc_Grades_init.nd
  refine kni_of T.m_Grades_init T.k_Grades sc_Grades_init (fun _ _ _ _ _ _ us hl => match us, hl with | [_, _, _], _ => rfl) len_Grades_init (by decide) (Fb := F_Grades_init) (fun f cdv A outer s H E hr => ?_) r_Grades_init
  exact (pps_cons (pp_set (i := 3) nd rfl (Or.inl rfl) (pp_op op_addA a_add (pb (pf (pf_lc (own := [("name", 5), ("least", 4)]) (t := (.tup [5, 4])) rfl nd (by decide) (ppi_items (pp_var 1)) (blkOk_by (by kernel_rfl)) (fun _ _ _ _ _ => (ppg_tup rfl (ppgs_cons (i := 5) nd rfl (Or.inl rfl) (ppgs_cons (i := 4) nd rfl (Or.inl rfl) ppgs_nil)))) (fun _ _ _ _ _ => ppts_nil) (fun _ _ _ _ _ => (pp_var 5))))) (pb (pf (pf_lst (ppa_cons (pp_var 2) ppa_nil))))))
    (pps_cons (pp_ifS (PW.pt (ppw_or (ppt_cmp op_gt a_gt (pb (pp_callB call_len c_len (by rfl) T.n_len (by decide +kernel) (pba_cons (pb (pp_var 1)) pba_nil))) (pb (pp_csti T.c_GRADES_MOST (by rfl))) (nomark _)) (ppw_or1 (ppt_cmp op_lt a_lt (pb (pp_lenSet rfl (by rfl) T.n_len (by rfl) T.n_set (pb (pp_var 3)))) (pb (pp_callB call_len c_len (by rfl) T.n_len (by decide +kernel) (pba_cons (pb (pp_var 3)) pba_nil))) (nomark _)))))
      pps_never
      pps_nil)
    (pps_cons (pp_ifS (ppt_not (ppt_truth (pp_callB (cr_all rfl) c_all (by rfl) T.n_all (by decide +kernel) (pba_cons (pb (pf (pf_lc (own := [("k", 6)]) (t := (.name 6)) rfl nd (by decide) (ppi_range1 (by rfl) T.n_range (ppa_cons (pp_op op_sub a_sub (pb (pp_callB call_len c_len (by rfl) T.n_len (by decide +kernel) (pba_cons (pb (pp_var 1)) pba_nil))) (pb pp_int)) ppa_nil)) (blkOk_by (by kernel_rfl)) (fun _ _ _ _ _ => (ppg_name (i := 6) nd rfl (Or.inl rfl))) (fun _ _ _ _ _ => ppts_nil) (fun _ _ _ _ _ => (pp_call (k_less.df hr (by decide)) (by rfl) (ppa_cons (pp_ix ix_seq a_ix (pb (pp_ix ix_seq a_ix (pb (pp_var 1)) (pb (pp_op op_addA a_add (pb (pp_var 6)) (pb pp_int))))) (pb pp_int)) (ppa_cons (pp_ix ix_seq a_ix (pb (pp_ix ix_seq a_ix (pb (pp_var 1)) (pb (pp_var 6)))) (pb pp_int)) ppa_nil))))))) pba_nil))))
      pps_never
      pps_nil)
    (pps_cons (pp_setF 0 T.cl_Grades T.na_Grades_rows (pp_callTy call_tuple_of c_tuple (by rfl) T.n_tuple (by decide +kernel) (pba_cons (pb (pp_var 1)) pba_nil)))
    (pps_one (pp_setF 0 T.cl_Grades T.na_Grades_last (pp_var 2)))))))
set_option maxHeartbeats 4000000 in
theorem kn_Grades_names (T : Txt K mg)  : KnM P w K mg base 1 "Grades" "names" (spP K φ_Grades_names) := by
  have nd := sc_Grades_names.nd
  refine knm_of T.m_Grades_names T.h_Grades_names T.cl_Grades sc_Grades_names (fun _ _ _ _ _ _ us hl => match us, hl with | [_], _ => rfl) len_Grades_names (Fb := F_Grades_names) (fun f cdv A outer s H E hr => ?_) r_Grades_names
  exact (pps_one (pp_ret (pp_op op_addA a_add (pb (pf (pf_lc (own := [("name", 2), ("least", 1)]) (t := (.tup [2, 1])) rfl nd (by decide) (ppi_items (pp_fld (pb (pp_var 0)) T.cl_Grades T.na_Grades_rows)) (blkOk_by (by kernel_rfl)) (fun _ _ _ _ _ => (ppg_tup rfl (ppgs_cons (i := 2) nd rfl (Or.inl rfl) (ppgs_cons (i := 1) nd rfl (Or.inl rfl) ppgs_nil)))) (fun _ _ _ _ _ => ppts_nil) (fun _ _ _ _ _ => (pp_var 2))))) (pb (pf (pf_lst (ppa_cons (pp_fld (pb (pp_var 0)) T.cl_Grades T.na_Grades_last) ppa_nil)))))))
set_option maxHeartbeats 4000000 in
theorem kn_Grades_grade (T : Txt K mg) (k_less : Kn P w K mg base 1 "less" (spP K φ_less)) : KnM P w K mg base 2 "Grades" "grade" (spP K φ_Grades_grade) := by
  have nd := sc_Grades_grade.nd
  refine knm_of T.m_Grades_grade T.h_Grades_grade T.cl_Grades sc_Grades_grade (fun _ _ _ _ _ _ us hl => match us, hl with | [_, _], _ => rfl) len_Grades_grade (Fb := F_Grades_grade) (fun f cdv A outer s H E hr => ?_) r_Grades_grade
  exact (pps_cons (pp_for PassesOwn.never rfl (ppi_items (pp_fld (pb (pp_var 0)) T.cl_Grades T.na_Grades_rows)) (ppg_tup rfl (ppgs_cons (i := 2) nd rfl (Or.inl rfl) (ppgs_cons (i := 3) nd rfl (Or.inl rfl) ppgs_nil)))
      (pps_one (pp_ifS (ppt_not (ppt_truth (pp_call (k_less.df hr (by decide)) (by rfl) (ppa_cons (pp_var 1) (ppa_cons (pp_var 3) ppa_nil)))))
      (pps_one (pp_ret (pp_var 2)))
      pps_nil)))
    (pps_one (pp_ret (pp_fld (pb (pp_var 0)) T.cl_Grades T.na_Grades_last))))
set_option maxHeartbeats 4000000 in
theorem kn_Grades_place (T : Txt K mg) (k_Grades_names : KnM P w K mg base 1 "Grades" "names" (spP K φ_Grades_names)) : KnM P w K mg base 2 "Grades" "place" (spP K φ_Grades_place) := by
  have nd := sc_Grades_place.nd
  refine knm_of T.m_Grades_place T.h_Grades_place T.cl_Grades sc_Grades_place (fun _ _ _ _ _ _ us hl => match us, hl with | [_, _], _ => rfl) len_Grades_place (Fb := F_Grades_place) (fun f cdv A outer s H E hr => ?_) r_Grades_place
  exact (pps_cons (pp_ifS (ppt_cmp op_notIn_seq a_notIn (pb (pp_var 1)) (pb (pp_meth0 (pp_var 0) (k_Grades_names.df hr (by decide)))) (by with_unfolding_all rfl))
      pps_never
      pps_nil)
    (pps_one (pp_ret (pp_lm PySem.F.slot_list_index PySem.F.type_list_index mt_index lm_index (pb (pp_meth0 (pp_var 0) (k_Grades_names.df hr (by decide)))) (ppa_cons (pp_var 1) ppa_nil)))))
set_option maxHeartbeats 4000000 in
theorem kn_Grades_counts (T : Txt K mg) (k_Grades_grade : KnM P w K mg base 2 "Grades" "grade" (spP K φ_Grades_grade)) (k_Grades_names : KnM P w K mg base 1 "Grades" "names" (spP K φ_Grades_names)) : KnM P w K mg base 3 "Grades" "counts" (spP K φ_Grades_counts) := by
  have nd := sc_Grades_counts.nd
  refine knm_of T.m_Grades_counts T.h_Grades_counts T.cl_Grades sc_Grades_counts (fun _ _ _ _ _ _ us hl => match us, hl with | [_, _], _ => rfl) len_Grades_counts (Fb := F_Grades_counts) (fun f cdv A outer s H E hr => ?_) r_Grades_counts
  exact (pps_cons (pp_set (i := 2) nd rfl (Or.inr rfl) (pf (pf_lc (own := [("mark", 3)]) (t := (.name 3)) rfl nd (by decide) (ppi_items (pp_var 1)) (blkOk_by (by kernel_rfl)) (fun _ _ _ _ _ => (ppg_name (i := 3) nd rfl (Or.inl rfl))) (fun _ _ _ _ _ => ppts_nil) (fun _ _ _ _ _ => (pp_meth (pp_var 0) (k_Grades_grade.df hr (by decide)) (ppa_cons (pp_var 3) ppa_nil))))))
    (pps_one (pp_ret (pf (pf_lc (own := [("name", 4)]) (t := (.name 4)) rfl nd (by decide) (ppi_items (pp_meth0 (pp_var 0) (k_Grades_names.df hr (by decide)))) (blkOk_by (by kernel_rfl)) (fun _ _ _ _ _ => (ppg_name (i := 4) nd rfl (Or.inl rfl))) (fun _ _ _ _ _ => ppts_nil) (fun _ _ _ _ _ => (pp_lm PySem.F.slot_list_count PySem.F.type_list_count mt_countF lm_count (pb (pp_var 2)) (ppa_cons (pp_var 4) ppa_nil))))))))
set_option maxHeartbeats 4000000 in
theorem kn_Grades_at_least (T : Txt K mg) (k_Grades_counts : KnM P w K mg base 3 "Grades" "counts" (spP K φ_Grades_counts)) : KnM P w K mg base 4 "Grades" "at_least" (spP K φ_Grades_at_least) := by
  have nd := sc_Grades_at_least.nd
  refine knm_of T.m_Grades_at_least T.h_Grades_at_least T.cl_Grades sc_Grades_at_least (fun _ _ _ _ _ _ us hl => match us, hl with | [_, _], _ => rfl) len_Grades_at_least (Fb := F_Grades_at_least) (fun f cdv A outer s H E hr => ?_) r_Grades_at_least
  exact (pps_cons (pp_setO (i := 2) nd rfl (Or.inl rfl) (pf_lst ppa_nil))
    (pps_cons (pp_for PassesOwn.never rfl (ppi_items (pp_meth (pp_var 0) (k_Grades_counts.df hr (by decide)) (ppa_cons (pp_var 1) ppa_nil))) (ppg_name (i := 3) nd rfl (Or.inl rfl))
      (pps_one (pp_mut (i := 2) PySem.F.slot_list_append PySem.F.type_list_append mt_append m_append rfl (Or.inl rfl) (ppa_cons (pp_op op_addA a_add (pb (pp_var 3)) (pb (pp_if (ppt_cmp op_gt a_gt (pb (pp_callB call_len c_len (by rfl) T.n_len (by decide +kernel) (pba_cons (pb_own 2) pba_nil))) (pb pp_int) (nomark _)) (pp_ix ix_seq a_ix (pb_own 2) (pb (pp_un un_neg a_neg (pb pp_int)))) pp_int))) ppa_nil))))
    (pps_frz 2 (pps_one (pp_ret (pp_var 2))))))
set_option maxHeartbeats 4000000 in
theorem kn_fraction (T : Txt K mg)  : Kn P w K mg base 1 "fraction" (spP K φ_fraction) := by
  have nd := sc_fraction.nd
  refine kn_of T.f_fraction sc_fraction (fun _ _ _ _ _ _ us hl => match us, hl with | [_, _], _ => rfl) len_fraction (Fb := F_fraction) (fun f cdv A outer s H E hr => ?_) r_fraction
  exact (pps_cons (pp_ifS (ppt_cmp (op_eqD hr.units) a_eq (pb (pp_var 1)) (pb pp_int) (nomark _))
      pps_never
      pps_nil)
    (pps_cons (pp_ifS (ppt_cmp op_lt a_lt (pb (pp_var 1)) (pb pp_int) (nomark _))
      (pps_one (pp_par2 (i0 := 0) (i1 := 1) rfl nd rfl rfl (by decide) rfl rfl (ppa_cons (pp_un un_neg a_neg (pb (pp_var 0))) (ppa_cons (pp_un un_neg a_neg (pb (pp_var 1))) ppa_nil)) (by rfl)))
      pps_nil)
    (pps_cons (pp_set (i := 2) nd rfl (Or.inl rfl) (pp_callG cr_gcd c_gcd (by rfl) T.b_gcd (pba_cons (pb (pp_var 0)) (pba_cons (pb (pp_var 1)) pba_nil))))
    (pps_one (pp_ret (pp_tup (ppa_cons (pp_op op_fdivW a_fdiv (pb (pp_var 0)) (pb (pp_var 2))) (ppa_cons (pp_op op_fdivW a_fdiv (pb (pp_var 1)) (pb (pp_var 2))) ppa_nil))))))))
set_option maxHeartbeats 4000000 in
theorem kn_minus (T : Txt K mg) (k_fraction : Kn P w K mg base 1 "fraction" (spP K φ_fraction)) : Kn P w K mg base 2 "minus" (spP K φ_minus) := by
  have nd := sc_minus.nd
  refine kn_of T.f_minus sc_minus (fun _ _ _ _ _ _ us hl => match us, hl with | [_, _], _ => rfl) len_minus (Fb := F_minus) (fun f cdv A outer s H E hr => ?_) r_minus
  exact (pps_one (pp_ret (pp_call (k_fraction.df hr (by decide)) (by rfl) (ppa_cons (pp_op op_sub a_sub (pb (pp_op op_mulA a_mul (pb (pp_ix ix_seq a_ix (pb (pp_var 0)) (pb pp_int))) (pb (pp_ix ix_seq a_ix (pb (pp_var 1)) (pb pp_int))))) (pb (pp_op op_mulA a_mul (pb (pp_ix ix_seq a_ix (pb (pp_var 1)) (pb pp_int))) (pb (pp_ix ix_seq a_ix (pb (pp_var 0)) (pb pp_int)))))) (ppa_cons (pp_op op_mulA a_mul (pb (pp_ix ix_seq a_ix (pb (pp_var 0)) (pb pp_int))) (pb (pp_ix ix_seq a_ix (pb (pp_var 1)) (pb pp_int)))) ppa_nil)))))
set_option maxHeartbeats 4000000 in
theorem kn_Grades_to_next (T : Txt K mg) (k_Grades_grade : KnM P w K mg base 2 "Grades" "grade" (spP K φ_Grades_grade)) (k_Grades_place : KnM P w K mg base 2 "Grades" "place" (spP K φ_Grades_place)) (k_minus : Kn P w K mg base 2 "minus" (spP K φ_minus)) : KnM P w K mg base 3 "Grades" "to_next" (spP K φ_Grades_to_next) := by
  have nd := sc_Grades_to_next.nd
  refine knm_of T.m_Grades_to_next T.h_Grades_to_next T.cl_Grades sc_Grades_to_next (fun _ _ _ _ _ _ us hl => match us, hl with | [_, _], _ => rfl) len_Grades_to_next (Fb := F_Grades_to_next) (fun f cdv A outer s H E hr => ?_) r_Grades_to_next
  exact (pps_cons (pp_set (i := 2) nd rfl (Or.inl rfl) (pp_meth (pp_var 0) (k_Grades_place.df hr (by decide)) (ppa_cons (pp_meth (pp_var 0) (k_Grades_grade.df hr (by decide)) (ppa_cons (pp_var 1) ppa_nil)) ppa_nil)))
    (pps_cons (pp_ifS (ppt_cmp (op_eqD hr.units) a_eq (pb (pp_var 2)) (pb pp_int) (nomark _))
      (pps_one (pp_ret pp_non))
      pps_nil)
    (pps_one (pp_ret (pp_call (k_minus.df hr (by decide)) (by rfl) (ppa_cons (pp_ix ix_seq a_ix (pb (pp_ix ix_seq a_ix (pb (pp_fld (pb (pp_var 0)) T.cl_Grades T.na_Grades_rows)) (pb (pp_op op_sub a_sub (pb (pp_var 2)) (pb pp_int))))) (pb pp_int)) (ppa_cons (pp_var 1) ppa_nil)))))))
set_option maxHeartbeats 4000000 in
theorem kn_Grades_over_edge (T : Txt K mg) (k_Grades_grade : KnM P w K mg base 2 "Grades" "grade" (spP K φ_Grades_grade)) (k_Grades_place : KnM P w K mg base 2 "Grades" "place" (spP K φ_Grades_place)) (k_minus : Kn P w K mg base 2 "minus" (spP K φ_minus)) : KnM P w K mg base 3 "Grades" "over_edge" (spP K φ_Grades_over_edge) := by
  have nd := sc_Grades_over_edge.nd
  refine knm_of T.m_Grades_over_edge T.h_Grades_over_edge T.cl_Grades sc_Grades_over_edge (fun _ _ _ _ _ _ us hl => match us, hl with | [_, _], _ => rfl) len_Grades_over_edge (Fb := F_Grades_over_edge) (fun f cdv A outer s H E hr => ?_) r_Grades_over_edge
  exact (pps_cons (pp_set (i := 2) nd rfl (Or.inl rfl) (pp_meth (pp_var 0) (k_Grades_place.df hr (by decide)) (ppa_cons (pp_meth (pp_var 0) (k_Grades_grade.df hr (by decide)) (ppa_cons (pp_var 1) ppa_nil)) ppa_nil)))
    (pps_cons (pp_ifS (ppt_cmp (op_eqD hr.units) a_eq (pb (pp_var 2)) (pb (pp_callB call_len c_len (by rfl) T.n_len (by decide +kernel) (pba_cons (pb (pp_fld (pb (pp_var 0)) T.cl_Grades T.na_Grades_rows)) pba_nil))) (nomark _))
      (pps_one (pp_ret pp_non))
      pps_nil)
    (pps_one (pp_ret (pp_call (k_minus.df hr (by decide)) (by rfl) (ppa_cons (pp_var 1) (ppa_cons (pp_ix ix_seq a_ix (pb (pp_ix ix_seq a_ix (pb (pp_fld (pb (pp_var 0)) T.cl_Grades T.na_Grades_rows)) (pb (pp_var 2)))) (pb pp_int)) ppa_nil)))))))
set_option maxHeartbeats 4000000 in
theorem kn_Grades_moved (T : Txt K mg) (k_Grades_init : KnI P w K mg base 2 "Grades" φ_Grades_init) (k_Grades_place : KnM P w K mg base 2 "Grades" "place" (spP K φ_Grades_place)) (k_minus : Kn P w K mg base 2 "minus" (spP K φ_minus)) : KnM P w K mg base 4 "Grades" "moved" (spP K φ_Grades_moved) := by
  have nd := sc_Grades_moved.nd
  refine knm_of T.m_Grades_moved T.h_Grades_moved T.cl_Grades sc_Grades_moved (fun _ _ _ _ _ _ us hl => match us, hl with | [_, _, _], _ => rfl) len_Grades_moved (Fb := F_Grades_moved) (fun f cdv A outer s H E hr => ?_) r_Grades_moved
  exact (pps_cons (pp_set (i := 3) nd rfl (Or.inl rfl) (pp_meth (pp_var 0) (k_Grades_place.df hr (by decide)) (ppa_cons (pp_var 1) ppa_nil)))
    (pps_cons (pp_ifS (ppt_cmp (op_eqD hr.units) a_eq (pb (pp_var 3)) (pb (pp_callB call_len c_len (by rfl) T.n_len (by decide +kernel) (pba_cons (pb (pp_fld (pb (pp_var 0)) T.cl_Grades T.na_Grades_rows)) pba_nil))) (nomark _))
      pps_never
      pps_nil)
    (pps_cons (pp_setO (i := 4) nd rfl (Or.inl rfl) (pf_callTy call_list_of f_list (by rfl) T.n_list (by decide +kernel) (pba_cons (pb (pp_fld (pb (pp_var 0)) T.cl_Grades T.na_Grades_rows)) pba_nil)))
    (pps_cons (pp_put (i := 4) rfl (Or.inl rfl) (pp_tup (ppa_cons (pp_ix ix_seq a_ix (pb (pp_ix ix_seq a_ix (pb_own 4) (pb (pp_var 3)))) (pb pp_int)) (ppa_cons (pp_call (k_minus.df hr (by decide)) (by rfl) (ppa_cons (pp_ix ix_seq a_ix (pb (pp_ix ix_seq a_ix (pb_own 4) (pb (pp_var 3)))) (pb pp_int)) (ppa_cons (pp_call (k_minus.df hr (by decide)) (by rfl) (ppa_cons (pp_cst T.c_ZERO (by rfl)) (ppa_cons (pp_var 2) ppa_nil))) ppa_nil))) ppa_nil))) (pp_var 3))
    (pps_one (pp_ret (pp_make (k_Grades_init.df hr (by decide)) (by rfl) (ppa_cons (pp_callTy call_tuple_of c_tuple (by rfl) T.n_tuple (by decide +kernel) (pba_cons (pb_own 4) pba_nil)) (ppa_cons (pp_fld (pb (pp_var 0)) T.cl_Grades T.na_Grades_last) ppa_nil)))))))))
set_option maxHeartbeats 4000000 in
theorem kn_regraded (T : Txt K mg) (k_Grades_grade : KnM P w K mg base 2 "Grades" "grade" (spP K φ_Grades_grade)) : Kn P w K mg base 3 "regraded" (spP K φ_regraded) := by
  have nd := sc_regraded.nd
  refine kn_of T.f_regraded sc_regraded (fun _ _ _ _ _ _ us hl => match us, hl with | [_, _, _], _ => rfl) len_regraded (Fb := F_regraded) (fun f cdv A outer s H E hr => ?_) r_regraded
  exact (pps_one (pp_ret (pf (pf_lc (own := [("place", 4), ("mark", 3)]) (t := (.tup [4, 3])) rfl nd (by decide) (ppi_enum (by rfl) T.n_enumerate (ppa_cons (pp_var 2) ppa_nil)) (blkOk_by (by kernel_rfl)) (fun _ _ _ _ _ => (ppg_tup rfl (ppgs_cons (i := 4) nd rfl (Or.inl rfl) (ppgs_cons (i := 3) nd rfl (Or.inl rfl) ppgs_nil)))) (fun _ _ _ _ _ => (ppts_one (ppt_cmp (op_neD hr.units) a_ne (pb (pp_meth (pp_var 0) (k_Grades_grade.df hr (by decide)) (ppa_cons (pp_var 3) ppa_nil))) (pb (pp_meth (pp_var 1) (k_Grades_grade.df hr (by decide)) (ppa_cons (pp_var 3) ppa_nil))) (nomark _)))) (fun _ _ _ _ _ => (pp_var 4))))))
set_option maxHeartbeats 4000000 in
theorem kn_l_is (T : Txt K mg)  : Kn P w K mg base 1 "_law_is" (spP K φ_l_is) := by
  have nd := sc_l_is.nd
  refine kn_of T.f_l_is sc_l_is (fun _ _ _ _ _ _ us hl => match us, hl with | [_, _], _ => rfl) len_l_is (Fb := F_l_is) (fun f cdv A outer s H E hr => ?_) r_l_is
  exact (pps_cons (pp_ifS (ppt_cmp op_isN a_isN (pb (pp_var 1)) (pb pp_non) (nomark _))
      (pps_one (pp_ret (pp_cmp op_isN a_isN (pb (pp_var 0)) (pb pp_non) (nomark _))))
      pps_nil)
    (pps_cons (pp_ifS (ppt_truth (pp_isi (T := "bool") (by decide) (by rfl) T.n_isinstance (by rfl) T.n_bool (by decide +kernel) (pb (pp_var 1))))
      (pps_one (pp_ret (pp_and (pp_isi (T := "bool") (by decide) (by rfl) T.n_isinstance (by rfl) T.n_bool (by decide +kernel) (pb (pp_var 0))) (pp_one (pp_cmp (op_eqD hr.units) a_eq (pb (pp_var 0)) (pb (pp_var 1)) (nomark _))))))
      pps_nil)
    (pps_cons (pp_ifS (ppt_truth (pp_isi (T := "int") (by decide) (by rfl) T.n_isinstance (by rfl) T.n_int (by decide +kernel) (pb (pp_var 1))))
      (pps_one (pp_ret (pp_and (pp_isi (T := "int") (by decide) (by rfl) T.n_isinstance (by rfl) T.n_int (by decide +kernel) (pb (pp_var 0))) (pp_one (pp_cmp (op_eqD hr.units) a_eq (pb (pp_var 0)) (pb (pp_var 1)) (nomark _))))))
      pps_nil)
    (pps_cons (pp_ifS (ppt_truth (pp_isi (T := "str") (by decide) (by rfl) T.n_isinstance (by rfl) T.n_str (by decide +kernel) (pb (pp_var 1))))
      (pps_one (pp_ret (pp_and (pp_isi (T := "str") (by decide) (by rfl) T.n_isinstance (by rfl) T.n_str (by decide +kernel) (pb (pp_var 0))) (pp_one (pp_cmp (op_eqD hr.units) a_eq (pb (pp_var 0)) (pb (pp_var 1)) (nomark _))))))
      pps_nil)
    (pps_cons (pp_ifS (ppt_truth (pp_isi (T := "tuple") (by decide) (by rfl) T.n_isinstance (by rfl) T.n_tuple (by decide +kernel) (pb (pp_var 1))))
      (pps_one (pp_ret (pp_and (pp_isi (T := "tuple") (by decide) (by rfl) T.n_isinstance (by rfl) T.n_tuple (by decide +kernel) (pb (pp_var 0))) (pp_one (pp_cmp (op_eqD hr.units) a_eq (pb (pp_var 0)) (pb (pp_var 1)) (nomark _))))))
      pps_nil)
    (pps_one (pp_ret (pp_and (pp_isi (T := "list") (by decide) (by rfl) T.n_isinstance (by rfl) T.n_list (by decide +kernel) (pb (pp_var 0))) (pp_one (pp_cmp (op_eqD hr.units) a_eq (pb (pp_var 0)) (pb (pp_var 1)) (nomark _)))))))))))
set_option maxHeartbeats 4000000 in
theorem kn_l_mod (T : Txt K mg)  : Kn P w K mg base 1 "_law_mod" (spP K φ_l_mod) := by
  have nd := sc_l_mod.nd
  refine kn_of T.f_l_mod sc_l_mod (fun _ _ _ _ _ _ us hl => match us, hl with | [_, _], _ => rfl) len_l_mod (Fb := F_l_mod) (fun f cdv A outer s H E hr => ?_) r_l_mod
  exact (pps_one (pp_ret (pp_op op_sub a_sub (pb (pp_var 0)) (pb (pp_op op_mulA a_mul (pb (pp_op op_fdivW a_fdiv (pb (pp_var 0)) (pb (pp_var 1)))) (pb (pp_var 1)))))))
set_option maxHeartbeats 4000000 in
theorem kn_l_gcd (T : Txt K mg) (k_l_mod : Kn P w K mg base 1 "_law_mod" (spP K φ_l_mod)) : Kn P w K mg base 2 "_law_gcd" (spP K φ_l_gcd) := by
  have nd := sc_l_gcd.nd
  refine kn_of T.f_l_gcd sc_l_gcd (fun _ _ _ _ _ _ us hl => match us, hl with | [_, _], _ => rfl) len_l_gcd (Fb := F_l_gcd) (fun f cdv A outer s H E hr => ?_) r_l_gcd
  exact (pps_cons (pp_for PassesOwn.never rfl (ppi_range1 (by rfl) T.n_range (ppa_cons pp_int ppa_nil)) (ppg_name (i := 2) nd rfl (Or.inl rfl))
      (pps_one (pp_ifS (ppt_cmp (op_neD hr.units) a_ne (pb (pp_var 1)) (pb pp_int) (nomark _))
      (pps_one (pp_par2 (i0 := 0) (i1 := 1) rfl nd rfl rfl (by decide) rfl rfl (ppa_cons (pp_var 1) (ppa_cons (pp_call (k_l_mod.df hr (by decide)) (by rfl) (ppa_cons (pp_var 0) (ppa_cons (pp_var 1) ppa_nil))) ppa_nil)) (by rfl)))
      pps_nil)))
    (pps_one (pp_ret (pp_var 0))))
set_option maxHeartbeats 4000000 in
theorem kn_l_frac (T : Txt K mg) (k_l_gcd : Kn P w K mg base 2 "_law_gcd" (spP K φ_l_gcd)) : Kn P w K mg base 3 "_law_frac" (spP K φ_l_frac) := by
  have nd := sc_l_frac.nd
  refine kn_of T.f_l_frac sc_l_frac (fun _ _ _ _ _ _ us hl => match us, hl with | [_, _], _ => rfl) len_l_frac (Fb := F_l_frac) (fun f cdv A outer s H E hr => ?_) r_l_frac
  exact (pps_cons (pp_ifS (ppt_cmp op_lt a_lt (pb (pp_var 1)) (pb pp_int) (nomark _))
      (pps_one (pp_par2 (i0 := 0) (i1 := 1) rfl nd rfl rfl (by decide) rfl rfl (ppa_cons (pp_op op_sub a_sub (pb pp_int) (pb (pp_var 0))) (ppa_cons (pp_op op_sub a_sub (pb pp_int) (pb (pp_var 1))) ppa_nil)) (by rfl)))
      pps_nil)
    (pps_cons (pp_set (i := 2) nd rfl (Or.inl rfl) (pp_call (k_l_gcd.df hr (by decide)) (by rfl) (ppa_cons (pp_callB call_abs c_abs (by rfl) T.n_abs (by decide +kernel) (pba_cons (pb (pp_var 0)) pba_nil)) (ppa_cons (pp_var 1) ppa_nil))))
    (pps_one (pp_ret (pp_tup (ppa_cons (pp_op op_fdivW a_fdiv (pb (pp_var 0)) (pb (pp_var 2))) (ppa_cons (pp_op op_fdivW a_fdiv (pb (pp_var 1)) (pb (pp_var 2))) ppa_nil)))))))
set_option maxHeartbeats 4000000 in
theorem kn_l_add (T : Txt K mg) (k_l_frac : Kn P w K mg base 3 "_law_frac" (spP K φ_l_frac)) : Kn P w K mg base 4 "_law_add" (spP K φ_l_add) := by
  have nd := sc_l_add.nd
  refine kn_of T.f_l_add sc_l_add (fun _ _ _ _ _ _ us hl => match us, hl with | [_, _], _ => rfl) len_l_add (Fb := F_l_add) (fun f cdv A outer s H E hr => ?_) r_l_add
  exact (pps_one (pp_ret (pp_call (k_l_frac.df hr (by decide)) (by rfl) (ppa_cons (pp_op op_addA a_add (pb (pp_op op_mulA a_mul (pb (pp_ix ix_seq a_ix (pb (pp_var 0)) (pb pp_int))) (pb (pp_ix ix_seq a_ix (pb (pp_var 1)) (pb pp_int))))) (pb (pp_op op_mulA a_mul (pb (pp_ix ix_seq a_ix (pb (pp_var 1)) (pb pp_int))) (pb (pp_ix ix_seq a_ix (pb (pp_var 0)) (pb pp_int)))))) (ppa_cons (pp_op op_mulA a_mul (pb (pp_ix ix_seq a_ix (pb (pp_var 0)) (pb pp_int))) (pb (pp_ix ix_seq a_ix (pb (pp_var 1)) (pb pp_int)))) ppa_nil)))))
set_option maxHeartbeats 4000000 in
theorem kn_l_sub (T : Txt K mg) (k_l_frac : Kn P w K mg base 3 "_law_frac" (spP K φ_l_frac)) : Kn P w K mg base 4 "_law_sub" (spP K φ_l_sub) := by
  have nd := sc_l_sub.nd
  refine kn_of T.f_l_sub sc_l_sub (fun _ _ _ _ _ _ us hl => match us, hl with | [_, _], _ => rfl) len_l_sub (Fb := F_l_sub) (fun f cdv A outer s H E hr => ?_) r_l_sub
  exact (pps_one (pp_ret (pp_call (k_l_frac.df hr (by decide)) (by rfl) (ppa_cons (pp_op op_sub a_sub (pb (pp_op op_mulA a_mul (pb (pp_ix ix_seq a_ix (pb (pp_var 0)) (pb pp_int))) (pb (pp_ix ix_seq a_ix (pb (pp_var 1)) (pb pp_int))))) (pb (pp_op op_mulA a_mul (pb (pp_ix ix_seq a_ix (pb (pp_var 1)) (pb pp_int))) (pb (pp_ix ix_seq a_ix (pb (pp_var 0)) (pb pp_int)))))) (ppa_cons (pp_op op_mulA a_mul (pb (pp_ix ix_seq a_ix (pb (pp_var 0)) (pb pp_int))) (pb (pp_ix ix_seq a_ix (pb (pp_var 1)) (pb pp_int)))) ppa_nil)))))
set_option maxHeartbeats 4000000 in
theorem kn_l_mul (T : Txt K mg) (k_l_frac : Kn P w K mg base 3 "_law_frac" (spP K φ_l_frac)) : Kn P w K mg base 4 "_law_mul" (spP K φ_l_mul) := by
  have nd := sc_l_mul.nd
  refine kn_of T.f_l_mul sc_l_mul (fun _ _ _ _ _ _ us hl => match us, hl with | [_, _], _ => rfl) len_l_mul (Fb := F_l_mul) (fun f cdv A outer s H E hr => ?_) r_l_mul
  exact (pps_one (pp_ret (pp_call (k_l_frac.df hr (by decide)) (by rfl) (ppa_cons (pp_op op_mulA a_mul (pb (pp_ix ix_seq a_ix (pb (pp_var 0)) (pb pp_int))) (pb (pp_ix ix_seq a_ix (pb (pp_var 1)) (pb pp_int)))) (ppa_cons (pp_op op_mulA a_mul (pb (pp_ix ix_seq a_ix (pb (pp_var 0)) (pb pp_int))) (pb (pp_ix ix_seq a_ix (pb (pp_var 1)) (pb pp_int)))) ppa_nil)))))
set_option maxHeartbeats 4000000 in
theorem kn_l_lt (T : Txt K mg)  : Kn P w K mg base 1 "_law_lt" (spP K φ_l_lt) := by
  have nd := sc_l_lt.nd
  refine kn_of T.f_l_lt sc_l_lt (fun _ _ _ _ _ _ us hl => match us, hl with | [_, _], _ => rfl) len_l_lt (Fb := F_l_lt) (fun f cdv A outer s H E hr => ?_) r_l_lt
  exact (pps_one (pp_ret (pp_cmp op_lt a_lt (pb (pp_op op_mulA a_mul (pb (pp_ix ix_seq a_ix (pb (pp_var 0)) (pb pp_int))) (pb (pp_ix ix_seq a_ix (pb (pp_var 1)) (pb pp_int))))) (pb (pp_op op_mulA a_mul (pb (pp_ix ix_seq a_ix (pb (pp_var 1)) (pb pp_int))) (pb (pp_ix ix_seq a_ix (pb (pp_var 0)) (pb pp_int))))) (nomark _))))
set_option maxHeartbeats 4000000 in
theorem kn_l_fraction (T : Txt K mg) (k_l_draw : Kn P w K mg base 1 "_law_draw" (spP K φ_l_draw)) (k_l_frac : Kn P w K mg base 3 "_law_frac" (spP K φ_l_frac)) : Kn P w K mg base 4 "_law_fraction" (spP K φ_l_fraction) := by
  have nd := sc_l_fraction.nd
  refine kn_of T.f_l_fraction sc_l_fraction (fun _ _ _ _ _ _ us hl => match us, hl with | [_, _], _ => rfl) len_l_fraction (Fb := F_l_fraction) (fun f cdv A outer s H E hr => ?_) r_l_fraction
  exact (pps_cons (pp_set (i := 2) nd rfl (Or.inl rfl) (pp_op op_addA a_add (pb pp_int) (pb (pp_call (k_l_draw.df hr (by decide)) (by rfl) (ppa_cons (pp_var 0) (ppa_cons pp_int ppa_nil))))))
    (pps_one (pp_ret (pp_call (k_l_frac.df hr (by decide)) (by rfl) (ppa_cons (pp_call (k_l_draw.df hr (by decide)) (by rfl) (ppa_cons (pp_var 0) (ppa_cons (pp_op op_addA a_add (pb (pp_op op_mulA a_mul (pb (pp_var 1)) (pb (pp_var 2)))) (pb pp_int)) ppa_nil))) (ppa_cons (pp_var 2) ppa_nil))))))
set_option maxHeartbeats 4000000 in
theorem kn_l_ladder (T : Txt K mg) (k_l_draw : Kn P w K mg base 1 "_law_draw" (spP K φ_l_draw)) (k_l_frac : Kn P w K mg base 3 "_law_frac" (spP K φ_l_frac)) (k_l_mul : Kn P w K mg base 4 "_law_mul" (spP K φ_l_mul)) : Kn P w K mg base 5 "_law_ladder" (spP K φ_l_ladder) := by
  have nd := sc_l_ladder.nd
  refine kn_of T.f_l_ladder sc_l_ladder (fun _ _ _ _ _ _ us hl => match us, hl with | [_, _], _ => rfl) len_l_ladder (Fb := F_l_ladder) (fun f cdv A outer s H E hr => ?_) r_l_ladder
  exact (pps_cons (pp_ifS (ppt_cmp (op_eqD hr.units) a_eq (pb (pp_var 1)) (pb (pp_tup (ppa_cons pp_int (ppa_cons pp_int ppa_nil)))) (nomark _))
      (pps_one (pp_ret (pp_tup (ppa_cons (pp_tup (ppa_cons pp_str (ppa_cons (pp_tup (ppa_cons pp_int (ppa_cons pp_int ppa_nil))) ppa_nil))) ppa_nil))))
      pps_nil)
    (pps_cons (pp_set (i := 2) nd rfl (Or.inl rfl) (pp_op op_addA a_add (pb pp_int) (pb (pp_call (k_l_draw.df hr (by decide)) (by rfl) (ppa_cons (pp_var 0) (ppa_cons pp_int ppa_nil))))))
    (pps_one (pp_ret (pp_callTy call_tuple_of c_tuple (by rfl) T.n_tuple (by decide +kernel) (pba_cons (pb (pf (pf_lc (own := [("k", 3)]) (t := (.name 3)) rfl nd (by decide) (ppi_range1 (by rfl) T.n_range (ppa_cons (pp_var 2) ppa_nil)) (blkOk_by (by kernel_rfl)) (fun _ _ _ _ _ => (ppg_name (i := 3) nd rfl (Or.inl rfl))) (fun _ _ _ _ _ => ppts_nil) (fun _ _ _ _ _ => (pp_tup (ppa_cons (pp_ix ix_seq a_ix (pb (pf (pf_lst (ppa_cons pp_str (ppa_cons pp_str (ppa_cons pp_str (ppa_cons pp_str ppa_nil))))))) (pb (pp_var 3))) (ppa_cons (pp_call (k_l_mul.df hr (by decide)) (by rfl) (ppa_cons (pp_var 1) (ppa_cons (pp_call (k_l_frac.df hr (by decide)) (by rfl) (ppa_cons (pp_op op_sub a_sub (pb (pp_op op_sub a_sub (pb pp_int) (pb (pp_op op_mulA a_mul (pb pp_int) (pb (pp_var 3)))))) (pb (pp_call (k_l_draw.df hr (by decide)) (by rfl) (ppa_cons (pp_var 0) (ppa_cons pp_int ppa_nil))))) (ppa_cons pp_int ppa_nil))) ppa_nil))) ppa_nil))))))) pba_nil))))))
set_option maxHeartbeats 8000000 in
theorem ok_law {f : Addr} {fd : FuncData} (F : FunD K "law" "law" (defArgs s_law) (defBody s_law) (defScope s_law) [] [] f fd) (T : Txt K mg) (k_tape : Kn P w K mg base 1 "_law_tape" (spTape K)) (k_Grades_init : KnI P w K mg base 2 "Grades" φ_Grades_init) (k_Grades_at_least : KnM P w K mg base 4 "Grades" "at_least" (spP K φ_Grades_at_least)) (k_Grades_counts : KnM P w K mg base 3 "Grades" "counts" (spP K φ_Grades_counts)) (k_Grades_grade : KnM P w K mg base 2 "Grades" "grade" (spP K φ_Grades_grade)) (k_Grades_moved : KnM P w K mg base 4 "Grades" "moved" (spP K φ_Grades_moved)) (k_Grades_names : KnM P w K mg base 1 "Grades" "names" (spP K φ_Grades_names)) (k_Grades_over_edge : KnM P w K mg base 3 "Grades" "over_edge" (spP K φ_Grades_over_edge)) (k_Grades_place : KnM P w K mg base 2 "Grades" "place" (spP K φ_Grades_place)) (k_Grades_to_next : KnM P w K mg base 3 "Grades" "to_next" (spP K φ_Grades_to_next)) (k_l_add : Kn P w K mg base 4 "_law_add" (spP K φ_l_add)) (k_l_draw : Kn P w K mg base 1 "_law_draw" (spP K φ_l_draw)) (k_l_frac : Kn P w K mg base 3 "_law_frac" (spP K φ_l_frac)) (k_l_fraction : Kn P w K mg base 4 "_law_fraction" (spP K φ_l_fraction)) (k_l_is : Kn P w K mg base 1 "_law_is" (spP K φ_l_is)) (k_l_ladder : Kn P w K mg base 5 "_law_ladder" (spP K φ_l_ladder)) (k_l_lt : Kn P w K mg base 1 "_law_lt" (spP K φ_l_lt)) (k_l_mul : Kn P w K mg base 4 "_law_mul" (spP K φ_l_mul)) (k_l_sub : Kn P w K mg base 4 "_law_sub" (spP K φ_l_sub)) (k_regraded : Kn P w K mg base 3 "regraded" (spP K φ_regraded)) : FnOk P w K mg base CX0 6 f fd ["script"] (spLaw K) := by
  have nd := sc_law.nd
  obtain ⟨fT, fdT, psT, FT, mT, kT, bT⟩ := k_tape.ex
  refine law_ok F sc_law (by decide) (Fb := F_law) (fun cdv A outer s H E hr => ?_) r_law
  delta F_law S_law_0 S_law_1 S_law_2 S_law_3 S_law_4 S_law_5 S_law_6 S_law_7 S_law_8 S_law_9_0 S_law_9_1 S_law_9_2 S_law_9_3 S_law_9_4 R_law_9_4 R_law_9_3 R_law_9_2 R_law_9_1 R_law_9_0 B_law_9 S_law_9 S_law_10 S_law_11 S_law_12 S_law_13 S_law_14 S_law_15 S_law_16 R_law_16 R_law_15 R_law_14 R_law_13 R_law_12 R_law_11 R_law_10 R_law_9 R_law_8 R_law_7 R_law_6 R_law_5 R_law_4 R_law_3 R_law_2 R_law_1 R_law_0
  exact pss_cons (ps_set (i := 1) nd rfl (Or.inr rfl) (pe_call FT (hr.mono (by decide)) (by rfl) mT kT bT .nil pass0 (pa_cons (pv 0) pa_nil)))
    (pps_cons (pp_par2 (i0 := 2) (i1 := 3) rfl nd rfl rfl (by decide) rfl rfl (ppa_cons (pf (pf_callTy call_list_of f_list (by rfl) T.n_list (by decide +kernel) (pba_cons (pb (pp_call (k_l_ladder.df hr (by decide)) (by rfl) (ppa_cons (pp_var 1) (ppa_cons (pp_tup (ppa_cons pp_int (ppa_cons pp_int ppa_nil))) ppa_nil)))) pba_nil))) (ppa_cons pp_int ppa_nil)) (by rfl))
    (pps_cons (pp_set (i := 3) nd rfl (Or.inl rfl) (pp_call (k_l_draw.df hr (by decide)) (by rfl) (ppa_cons (pp_var 1) (ppa_cons (pp_op op_addA a_add (pb (pp_callB call_len c_len (by rfl) T.n_len (by decide +kernel) (pba_cons (pb (pp_var 2)) pba_nil))) (pb pp_int)) ppa_nil))))
    (pps_cons (pp_set (i := 4) nd rfl (Or.inr rfl) (pp_if (ppt_cmp (op_eqD hr.units) a_eq (pb (pp_var 3)) (pb pp_int) (nomark _)) (pp_tup (ppa_cons pp_int (ppa_cons pp_int ppa_nil))) (pp_ix ix_seq a_ix (pb (pp_ix ix_seq a_ix (pb (pp_var 2)) (pb (pp_op op_sub a_sub (pb (pp_var 3)) (pb pp_int))))) (pb pp_int))))
    (pps_cons (pp_set (i := 5) nd rfl (Or.inl rfl) (pp_if (ppt_cmp (op_eqD hr.units) a_eq (pb (pp_var 3)) (pb (pp_callB call_len c_len (by rfl) T.n_len (by decide +kernel) (pba_cons (pb (pp_var 2)) pba_nil))) (nomark _)) (pp_tup (ppa_cons pp_int (ppa_cons pp_int ppa_nil))) (pp_ix ix_seq a_ix (pb (pp_ix ix_seq a_ix (pb (pp_var 2)) (pb (pp_var 3)))) (pb pp_int))))
    (pps_cons (pp_set (i := 6) nd rfl (Or.inr rfl) (pp_call (k_l_add.df hr (by decide)) (by rfl) (ppa_cons (pp_var 5) (ppa_cons (pp_call (k_l_mul.df hr (by decide)) (by rfl) (ppa_cons (pp_call (k_l_sub.df hr (by decide)) (by rfl) (ppa_cons (pp_var 4) (ppa_cons (pp_var 5) ppa_nil))) (ppa_cons (pp_call (k_l_frac.df hr (by decide)) (by rfl) (ppa_cons (pp_op op_addA a_add (pb pp_int) (pb (pp_call (k_l_draw.df hr (by decide)) (by rfl) (ppa_cons (pp_var 1) (ppa_cons pp_int ppa_nil))))) (ppa_cons pp_int ppa_nil))) ppa_nil))) ppa_nil))))
    (pps_cons (pp_par2 (i0 := 7) (i1 := 8) rfl nd rfl rfl (by decide) rfl rfl (ppa_cons (pp_make (k_Grades_init.df hr (by decide)) (by rfl) (ppa_cons (pp_callTy call_tuple_of c_tuple (by rfl) T.n_tuple (by decide +kernel) (pba_cons (pb (pp_var 2)) pba_nil)) (ppa_cons pp_str ppa_nil))) (ppa_cons (pp_make (k_Grades_init.df hr (by decide)) (by rfl) (ppa_cons (pp_callTy call_tuple_of c_tuple (by rfl) T.n_tuple (by decide +kernel) (pba_cons (pb (pp_op op_addA a_add (pb (pp_op op_addA a_add (pb (pf (pf_slice (pb (pp_var 2)) ppo_none (ppo_some (pp_var 3))))) (pb (pf (pf_lst (ppa_cons (pp_tup (ppa_cons pp_str (ppa_cons (pp_var 6) ppa_nil))) ppa_nil)))))) (pb (pf (pf_slice (pb (pp_var 2)) (ppo_some (pp_var 3)) ppo_none))))) pba_nil)) (ppa_cons pp_str ppa_nil))) ppa_nil)) (by rfl))
    (pps_cons (pp_set (i := 9) nd rfl (Or.inr rfl) (pp_op op_addA a_add (pb (pp_op op_addA a_add (pb (pf (pf_lc (own := [("n", 11)]) (t := (.name 11)) rfl nd (by decide) (ppi_range1 (by rfl) T.n_range (ppa_cons pp_int ppa_nil)) (blkOk_by (by kernel_rfl)) (fun _ _ _ _ _ => (ppg_name (i := 11) nd rfl (Or.inl rfl))) (fun _ _ _ _ _ => ppts_nil) (fun _ _ _ _ _ => (pp_call (k_l_fraction.df hr (by decide)) (by rfl) (ppa_cons (pp_var 1) (ppa_cons pp_int ppa_nil))))))) (pb (pf (pf_lst (ppa_cons (pp_var 6) ppa_nil)))))) (pb (pf (pf_lc (own := [("name", 21), ("least", 20)]) (t := (.tup [21, 20])) rfl nd (by decide) (ppi_items (pp_var 2)) (blkOk_by (by kernel_rfl)) (fun _ _ _ _ _ => (ppg_tup rfl (ppgs_cons (i := 21) nd rfl (Or.inl rfl) (ppgs_cons (i := 20) nd rfl (Or.inl rfl) ppgs_nil)))) (fun _ _ _ _ _ => ppts_nil) (fun _ _ _ _ _ => (pp_var 20)))))))
    (pps_cons (pp_setLc (i := 10) (own := [("n", 11)]) (t := (.name 11)) rfl nd (by decide) rfl rfl (sw_true rfl rfl rfl (by decide +kernel)) (ppi_range1 (by rfl) T.n_range (ppa_cons (pp_callB call_len c_len (by rfl) T.n_len (by decide +kernel) (pba_cons (pb (pp_var 9)) pba_nil)) ppa_nil)) (blkOk_by (by kernel_rfl)) (fun _ _ _ _ _ => (ppg_name (i := 11) nd rfl (Or.inl rfl))) (fun _ _ _ _ _ => (ppts_one (PW.pt (ppw_and (ppt_not (ppt_truth (pp_call (k_l_lt.df hr (by decide)) (by rfl) (ppa_cons (pp_ix ix_seq a_ix (pb (pp_var 9)) (pb (pp_var 11))) (ppa_cons (pp_var 6) ppa_nil))))) (ppw_and1 (ppt_truth (pp_call (k_l_lt.df hr (by decide)) (by rfl) (ppa_cons (pp_ix ix_seq a_ix (pb (pp_var 9)) (pb (pp_var 11))) (ppa_cons (pp_var 4) ppa_nil))))))))) (fun _ _ _ _ _ => (pp_var 11)))
    (pps_cons (pp_ifS (ppt_cmp (op_eqD hr.units) a_eq (pb (pp_var 3)) (pb pp_int) (nomark _))
      (pps_one (pp_setLc (i := 10) (own := [("n", 11)]) (t := (.name 11)) rfl nd (by decide) rfl rfl (sw_true rfl rfl rfl (by decide +kernel)) (ppi_range1 (by rfl) T.n_range (ppa_cons (pp_callB call_len c_len (by rfl) T.n_len (by decide +kernel) (pba_cons (pb (pp_var 9)) pba_nil)) ppa_nil)) (blkOk_by (by kernel_rfl)) (fun _ _ _ _ _ => (ppg_name (i := 11) nd rfl (Or.inl rfl))) (fun _ _ _ _ _ => (ppts_one (ppt_not (ppt_truth (pp_call (k_l_lt.df hr (by decide)) (by rfl) (ppa_cons (pp_ix ix_seq a_ix (pb (pp_var 9)) (pb (pp_var 11))) (ppa_cons (pp_var 6) ppa_nil))))))) (fun _ _ _ _ _ => (pp_var 11))))
      pps_nil)
    (pps_cons (pp_for PassesOwn.never rfl (ppi_range1 (by rfl) T.n_range (ppa_cons (pp_callB call_len c_len (by rfl) T.n_len (by decide +kernel) (pba_cons (pb (pp_var 9)) pba_nil)) ppa_nil)) (ppg_name (i := 11) nd rfl (Or.inl rfl))
      (pps_cons (pp_ifS (ppt_cmp (op_neD hr.units) a_ne (pb (pp_meth (pp_var 8) (k_Grades_grade.df hr (by decide)) (ppa_cons (pp_ix ix_seq a_ix (pb (pp_var 9)) (pb (pp_var 11))) ppa_nil))) (pb (pp_if (ppt_cmp op_in_seq a_in (pb (pp_var 11)) (pb (pp_var 10)) (by with_unfolding_all rfl)) pp_str (pp_meth (pp_var 7) (k_Grades_grade.df hr (by decide)) (ppa_cons (pp_ix ix_seq a_ix (pb (pp_var 9)) (pb (pp_var 11))) ppa_nil)))) (nomark _))
      (pps_one (pp_ret pp_bl))
      pps_nil)
    (pps_cons (pp_par2 (i0 := 12) (i1 := 13) rfl nd rfl rfl (by decide) rfl rfl (ppa_cons (pp_meth (pp_var 7) (k_Grades_to_next.df hr (by decide)) (ppa_cons (pp_ix ix_seq a_ix (pb (pp_var 9)) (pb (pp_var 11))) ppa_nil)) (ppa_cons (pp_meth (pp_var 7) (k_Grades_over_edge.df hr (by decide)) (ppa_cons (pp_ix ix_seq a_ix (pb (pp_var 9)) (pb (pp_var 11))) ppa_nil)) ppa_nil)) (by rfl))
    (pps_cons (pp_set (i := 14) nd rfl (Or.inl rfl) (pp_meth (pp_var 7) (k_Grades_place.df hr (by decide)) (ppa_cons (pp_meth (pp_var 7) (k_Grades_grade.df hr (by decide)) (ppa_cons (pp_ix ix_seq a_ix (pb (pp_var 9)) (pb (pp_var 11))) ppa_nil)) ppa_nil)))
    (pps_cons (pp_ifS (PW.pt (ppw_or (ppt_cmp (op_neD hr.units) a_ne (pb (pp_cmp op_isN a_isN (pb (pp_var 12)) (pb pp_non) (nomark _))) (pb (pp_cmp (op_eqD hr.units) a_eq (pb (pp_var 14)) (pb pp_int) (nomark _))) (nomark _)) (ppw_or1 (ppt_cmp (op_neD hr.units) a_ne (pb (pp_cmp op_isN a_isN (pb (pp_var 13)) (pb pp_non) (nomark _))) (pb (pp_cmp (op_eqD hr.units) a_eq (pb (pp_var 14)) (pb (pp_callB call_len c_len (by rfl) T.n_len (by decide +kernel) (pba_cons (pb (pp_var 2)) pba_nil))) (nomark _))) (nomark _)))))
      (pps_one (pp_ret pp_bl))
      pps_nil)
    (pps_one (pp_ifS (PW.pt (ppw_and (ppt_cmp op_notN a_notN (pb (pp_var 12)) (pb pp_non) (nomark _)) (ppw_and (ppt_cmp op_notN a_notN (pb (pp_var 13)) (pb pp_non) (nomark _)) (ppw_and1 (ppt_cmp (op_neD hr.units) a_ne (pb (pp_call (k_l_add.df hr (by decide)) (by rfl) (ppa_cons (pp_var 12) (ppa_cons (pp_var 13) ppa_nil)))) (pb (pp_call (k_l_sub.df hr (by decide)) (by rfl) (ppa_cons (pp_ix ix_seq a_ix (pb (pp_ix ix_seq a_ix (pb (pp_var 2)) (pb (pp_op op_sub a_sub (pb (pp_var 14)) (pb pp_int))))) (pb pp_int)) (ppa_cons (pp_ix ix_seq a_ix (pb (pp_ix ix_seq a_ix (pb (pp_var 2)) (pb (pp_var 14)))) (pb pp_int)) ppa_nil)))) (nomark _))))))
      (pps_one (pp_ret pp_bl))
      pps_nil)))))))
    (pps_cons (pp_asg (pp_tup (ppa_cons (pp_meth (pp_var 7) (k_Grades_counts.df hr (by decide)) (ppa_cons (pp_var 9) ppa_nil)) (ppa_cons (pp_meth (pp_var 8) (k_Grades_counts.df hr (by decide)) (ppa_cons (pp_var 9) ppa_nil)) ppa_nil))) (ppg_tup rfl (ppgs_cons (i := 15) nd rfl (Or.inl rfl) (ppgs_cons (i := 16) nd rfl (Or.inr rfl) ppgs_nil))))
    (pps_cons (pp_ifS (PW.pt (ppw_or (ppt_cmp (op_neD hr.units) a_ne (pb (pp_ix ix_seq a_ix (pb (pp_var 16)) (pb (pp_var 3)))) (pb (pp_callB call_len c_len (by rfl) T.n_len (by decide +kernel) (pba_cons (pb (pp_var 10)) pba_nil))) (nomark _)) (ppw_or (ppt_cmp (op_neD hr.units) a_ne (pb (pp_var 15)) (pb (pp_op op_addA a_add (pb (pp_op op_addA a_add (pb (pf (pf_slice (pb (pp_var 16)) ppo_none (ppo_some (pp_var 3))))) (pb (pf (pf_lst (ppa_cons (pp_op op_addA a_add (pb (pp_ix ix_seq a_ix (pb (pp_var 16)) (pb (pp_var 3)))) (pb (pp_ix ix_seq a_ix (pb (pp_var 16)) (pb (pp_op op_addA a_add (pb (pp_var 3)) (pb pp_int)))))) ppa_nil)))))) (pb (pf (pf_slice (pb (pp_var 16)) (ppo_some (pp_op op_addA a_add (pb (pp_var 3)) (pb pp_int))) ppo_none))))) (nomark _)) (ppw_or1 (ppt_cmp (op_neD hr.units) a_ne (pb (pp_callB (cr_sum rfl) c_sum (by rfl) T.n_sum (by decide +kernel) (pba_cons (pb (pp_var 15)) pba_nil))) (pb (pp_callB call_len c_len (by rfl) T.n_len (by decide +kernel) (pba_cons (pb (pp_var 9)) pba_nil))) (nomark _))))))
      (pps_one (pp_ret pp_bl))
      pps_nil)
    (pps_cons (pp_ifS (PW.pt (ppw_or (ppt_not (ppt_truth (pp_call (k_l_is.df hr (by decide)) (by rfl) (ppa_cons (pp_meth (pp_var 8) (k_Grades_at_least.df hr (by decide)) (ppa_cons (pp_var 9) ppa_nil)) (ppa_cons (pf (pf_lc (own := [("n", 11)]) (t := (.name 11)) rfl nd (by decide) (ppi_range1 (by rfl) T.n_range (ppa_cons (pp_callB call_len c_len (by rfl) T.n_len (by decide +kernel) (pba_cons (pb (pp_var 16)) pba_nil)) ppa_nil)) (blkOk_by (by kernel_rfl)) (fun _ _ _ _ _ => (ppg_name (i := 11) nd rfl (Or.inl rfl))) (fun _ _ _ _ _ => ppts_nil) (fun _ _ _ _ _ => (pp_callB (cr_sum rfl) c_sum (by rfl) T.n_sum (by decide +kernel) (pba_cons (pb (pf (pf_slice (pb (pp_var 16)) ppo_none (ppo_some (pp_op op_addA a_add (pb (pp_var 11)) (pb pp_int)))))) pba_nil))))) ppa_nil))))) (ppw_or1 (ppt_not (ppt_truth (pp_call (k_l_is.df hr (by decide)) (by rfl) (ppa_cons (pp_call (k_regraded.df hr (by decide)) (by rfl) (ppa_cons (pp_var 7) (ppa_cons (pp_var 8) (ppa_cons (pp_var 9) ppa_nil)))) (ppa_cons (pp_var 10) ppa_nil))))))))
      (pps_one (pp_ret pp_bl))
      pps_nil)
    (pps_cons (pp_set (i := 17) nd rfl (Or.inl rfl) (pp_call (k_l_mul.df hr (by decide)) (by rfl) (ppa_cons (pp_call (k_l_sub.df hr (by decide)) (by rfl) (ppa_cons (pp_var 6) (ppa_cons (pp_var 5) ppa_nil))) (ppa_cons (pp_tup (ppa_cons pp_int (ppa_cons pp_int ppa_nil))) ppa_nil))))
    (pps_cons (pp_set (i := 18) nd rfl (Or.inl rfl) (pp_meth (pp_var 8) (k_Grades_moved.df hr (by decide)) (ppa_cons pp_str (ppa_cons (pp_tup (ppa_cons (pp_op op_sub a_sub (pb pp_int) (pb (pp_ix ix_seq a_ix (pb (pp_var 17)) (pb pp_int)))) (ppa_cons (pp_ix ix_seq a_ix (pb (pp_var 17)) (pb pp_int)) ppa_nil))) ppa_nil))))
    (pps_cons (pp_set (i := 19) nd rfl (Or.inl rfl) (pp_meth (pp_var 18) (k_Grades_moved.df hr (by decide)) (ppa_cons pp_str (ppa_cons (pp_var 17) ppa_nil))))
    (pps_one (pp_ret (pp_and (pp_call (k_l_is.df hr (by decide)) (by rfl) (ppa_cons (pp_fld (pb (pp_var 19)) T.cl_Grades T.na_Grades_rows) (ppa_cons (pp_fld (pb (pp_var 8)) T.cl_Grades T.na_Grades_rows) ppa_nil))) (pp_and (pp_cmp (op_eqD hr.units) a_eq (pb (pp_meth0 (pp_var 18) (k_Grades_names.df hr (by decide)))) (pb (pp_meth0 (pp_var 8) (k_Grades_names.df hr (by decide)))) (nomark _)) (pp_one (pp_cmp (op_eqD hr.units) a_eq (pb (pp_ix ix_seq a_ix (pb (pp_fld (pb (pp_var 18)) T.cl_Grades T.na_Grades_rows)) (pb (pp_var 3)))) (pb (pp_tup (ppa_cons pp_str (ppa_cons (pp_call (k_l_sub.df hr (by decide)) (by rfl) (ppa_cons (pp_var 6) (ppa_cons (pp_var 17) ppa_nil))) ppa_nil)))) (nomark _)))))))))))))))))))))))
end
set_option maxHeartbeats 0
def loose : List Str := (["_wall", "MarkError", "BadNumber", "BadRule", "ZERO", "fraction", "minus", "less", "GRADES_MOST", "Grades", "regraded", "_law_draw", "_law_tape", "_law_is", "_law_mod", "_law_gcd", "_law_frac", "_law_add", "_law_sub", "_law_mul", "_law_lt", "_law_fraction", "_law_ladder"] : List Str)
def fnL : List He.DefD := ([dOf "_law_draw" s_l_draw, dOf "_law_tape" s_l_tape, dOf "less" s_less, mOf "Grades" "__init__" "Grades.__init__" s_Grades_init, mOf "Grades" "names" "Grades.names" s_Grades_names, mOf "Grades" "grade" "Grades.grade" s_Grades_grade, mOf "Grades" "place" "Grades.place" s_Grades_place, mOf "Grades" "counts" "Grades.counts" s_Grades_counts, mOf "Grades" "at_least" "Grades.at_least" s_Grades_at_least, dOf "fraction" s_fraction, dOf "minus" s_minus, mOf "Grades" "to_next" "Grades.to_next" s_Grades_to_next, mOf "Grades" "over_edge" "Grades.over_edge" s_Grades_over_edge, mOf "Grades" "moved" "Grades.moved" s_Grades_moved, dOf "regraded" s_regraded, dOf "_law_is" s_l_is, dOf "_law_mod" s_l_mod, dOf "_law_gcd" s_l_gcd, dOf "_law_frac" s_l_frac, dOf "_law_add" s_l_add, dOf "_law_sub" s_l_sub, dOf "_law_mul" s_l_mul, dOf "_law_lt" s_l_lt, dOf "_law_fraction" s_l_fraction, dOf "_law_ladder" s_l_ladder, dOf "law" s_law] : List He.DefD)
def bsL : List KB := ([kGlo "_law_draw", kGlo "_law_tape", kGlo "less", kMeth "Grades" "names", kMeth "Grades" "grade", kMeth "Grades" "place", kMeth "Grades" "counts", kMeth "Grades" "at_least", kGlo "fraction", kGlo "minus", kMeth "Grades" "to_next", kMeth "Grades" "over_edge", kMeth "Grades" "moved", kGlo "regraded", kGlo "_law_is", kGlo "_law_mod", kGlo "_law_gcd", kGlo "_law_frac", kGlo "_law_add", kGlo "_law_sub", kGlo "_law_mul", kGlo "_law_lt", kGlo "_law_fraction", kGlo "_law_ladder", kGlo "law", kCls "Grades", kMkr "Grades", kGlo "Grades", kNoat "Grades" "rows", kNoat "Grades" "last"] : List KB) ++ ([kBlt "gcd" "math.gcd", kTup "ZERO" [.int 0, .int 1], kInt "GRADES_MOST" 60, kFree "abs", kFree "all", kFree "bool", kFree "enumerate", kFree "int", kFree "isinstance", kFree "len", kFree "list", kFree "range", kFree "set", kFree "str", kFree "sum", kFree "tuple"] : List KB)
abbrev Rw : PySem.W.OpenRow := PySem.W.OpenLaw.row PySem.Challenge.rw_fairmarks_k41_grades_cut_finer
abbrev hkL : PySem.W.Hook := hookB 7 bsL fnL
def obL (s : PySem.W.SharedT) : He.AlD := obsBG 7 bsL fnL (HandSHeadRun.getT s)
theorem obL_eq (s : PySem.W.SharedT) : obL s = hkL.obs s.abs := obsBG_eq (HandSHeadRun.getT_eq s)
theorem runL (w : World) : HandSHeadRun.RunEqI Rw (PySem.W.view Rw.prog [0, 28]) hkL obL 20000 loose w := by
  unfold HandSHeadRun.RunEqI
  kernel_rfl
theorem txtL {K : PySem.W.Frag} {h : Heap} {mg : Str → Option Value} (X : K.In h) (G : h.Ns mainGlobals mg) (c : SaysB bsL fnL K) : Txt K mg where
  f_l_draw := fnx_of X G c 0 0
  f_l_tape := fnx_of X G c 1 1
  f_less := fnx_of X G c 2 2
  m_Grades_init := mth_of c 3
  m_Grades_names := mth_of c 4
  h_Grades_names := meth_of c 3
  m_Grades_grade := mth_of c 5
  h_Grades_grade := meth_of c 4
  m_Grades_place := mth_of c 6
  h_Grades_place := meth_of c 5
  m_Grades_counts := mth_of c 7
  h_Grades_counts := meth_of c 6
  m_Grades_at_least := mth_of c 8
  h_Grades_at_least := meth_of c 7
  f_fraction := fnx_of X G c 9 8
  f_minus := fnx_of X G c 10 9
  m_Grades_to_next := mth_of c 11
  h_Grades_to_next := meth_of c 10
  m_Grades_over_edge := mth_of c 12
  h_Grades_over_edge := meth_of c 11
  m_Grades_moved := mth_of c 13
  h_Grades_moved := meth_of c 12
  f_regraded := fnx_of X G c 14 13
  f_l_is := fnx_of X G c 15 14
  f_l_mod := fnx_of X G c 16 15
  f_l_gcd := fnx_of X G c 17 16
  f_l_frac := fnx_of X G c 18 17
  f_l_add := fnx_of X G c 19 18
  f_l_sub := fnx_of X G c 20 19
  f_l_mul := fnx_of X G c 21 20
  f_l_lt := fnx_of X G c 22 21
  f_l_fraction := fnx_of X G c 23 22
  f_l_ladder := fnx_of X G c 24 23
  cl_Grades := cls_of c 25
  k_Grades := cla_of X G c 25 26 27
  na_Grades_rows := noat_of c 28
  na_Grades_last := noat_of c 29
  b_gcd := blt_of X G c 30
  c_ZERO := cst_of X G c 31
  c_GRADES_MOST := csti_of X G c 32
  n_abs := free_of X G c 33
  n_all := free_of X G c 34
  n_bool := free_of X G c 35
  n_enumerate := free_of X G c 36
  n_int := free_of X G c 37
  n_isinstance := free_of X G c 38
  n_len := free_of X G c 39
  n_list := free_of X G c 40
  n_range := free_of X G c 41
  n_set := free_of X G c 42
  n_str := free_of X G c 43
  n_sum := free_of X G c 44
  n_tuple := free_of X G c 45
theorem factsL {P : Program} {w : World} {K : PySem.W.Frag} {h : Heap} {mg : Str → Option Value} {f : Addr} (X : K.In h) (G : h.Ns mainGlobals mg) (hfa : mg ("law" : Str) = some (.ref f)) (c : SaysB bsL fnL K) :
    ∃ fd : FuncData, (∀ (s : Shared) (v : Value), BindsTo s fd ⟨[v], []⟩ [("script", v)]) ∧ ∀ base : Heap, K.In base → base.Ns mainGlobals mg → FnOk P w K mg base CX0 6 f fd ["script"] (spLaw K) := by
  have T := txtL X G c
  obtain ⟨fd, F⟩ := c.def_ 25 (d := dOf "law" s_law) rfl
  have e := hfa.symm.trans (He.glo_ok X G (c.fact 24 (f := kGlo "law") rfl))
  cases e
  have b := FunD.bindsA (ps := ["script"]) F fun _ _ _ _ _ _ us hl => match us, hl with | [_], _ => rfl
  refine ⟨fd, fun s v => b s [v] rfl, fun base _ _ => ?_⟩
  have k_tape : Kn P w K mg base 1 "_law_tape" (spTape K) := kn_tape T.f_l_tape T.n_len T.n_int T.n_list
  have k_l_draw : Kn P w K mg base 1 "_law_draw" (spP K φ_l_draw) := kn_draw T.f_l_draw T.n_len T.n_int
  have k_less : Kn P w K mg base 1 "less" (spP K φ_less) := kn_less T 
  have k_Grades_init : KnI P w K mg base 2 "Grades" φ_Grades_init := kn_Grades_init T k_less
  have k_Grades_names : KnM P w K mg base 1 "Grades" "names" (spP K φ_Grades_names) := kn_Grades_names T 
  have k_Grades_grade : KnM P w K mg base 2 "Grades" "grade" (spP K φ_Grades_grade) := kn_Grades_grade T k_less
  have k_Grades_place : KnM P w K mg base 2 "Grades" "place" (spP K φ_Grades_place) := kn_Grades_place T k_Grades_names
  have k_Grades_counts : KnM P w K mg base 3 "Grades" "counts" (spP K φ_Grades_counts) := kn_Grades_counts T k_Grades_grade k_Grades_names
  have k_Grades_at_least : KnM P w K mg base 4 "Grades" "at_least" (spP K φ_Grades_at_least) := kn_Grades_at_least T k_Grades_counts
  have k_fraction : Kn P w K mg base 1 "fraction" (spP K φ_fraction) := kn_fraction T 
  have k_minus : Kn P w K mg base 2 "minus" (spP K φ_minus) := kn_minus T k_fraction
  have k_Grades_to_next : KnM P w K mg base 3 "Grades" "to_next" (spP K φ_Grades_to_next) := kn_Grades_to_next T k_Grades_grade k_Grades_place k_minus
  have k_Grades_over_edge : KnM P w K mg base 3 "Grades" "over_edge" (spP K φ_Grades_over_edge) := kn_Grades_over_edge T k_Grades_grade k_Grades_place k_minus
  have k_Grades_moved : KnM P w K mg base 4 "Grades" "moved" (spP K φ_Grades_moved) := kn_Grades_moved T k_Grades_init k_Grades_place k_minus
  have k_regraded : Kn P w K mg base 3 "regraded" (spP K φ_regraded) := kn_regraded T k_Grades_grade
  have k_l_is : Kn P w K mg base 1 "_law_is" (spP K φ_l_is) := kn_l_is T 
  have k_l_mod : Kn P w K mg base 1 "_law_mod" (spP K φ_l_mod) := kn_l_mod T 
  have k_l_gcd : Kn P w K mg base 2 "_law_gcd" (spP K φ_l_gcd) := kn_l_gcd T k_l_mod
  have k_l_frac : Kn P w K mg base 3 "_law_frac" (spP K φ_l_frac) := kn_l_frac T k_l_gcd
  have k_l_add : Kn P w K mg base 4 "_law_add" (spP K φ_l_add) := kn_l_add T k_l_frac
  have k_l_sub : Kn P w K mg base 4 "_law_sub" (spP K φ_l_sub) := kn_l_sub T k_l_frac
  have k_l_mul : Kn P w K mg base 4 "_law_mul" (spP K φ_l_mul) := kn_l_mul T k_l_frac
  have k_l_lt : Kn P w K mg base 1 "_law_lt" (spP K φ_l_lt) := kn_l_lt T 
  have k_l_fraction : Kn P w K mg base 4 "_law_fraction" (spP K φ_l_fraction) := kn_l_fraction T k_l_draw k_l_frac
  have k_l_ladder : Kn P w K mg base 5 "_law_ladder" (spP K φ_l_ladder) := kn_l_ladder T k_l_draw k_l_frac k_l_mul
  exact ok_law F T k_tape k_Grades_init k_Grades_at_least k_Grades_counts k_Grades_grade k_Grades_moved k_Grades_names k_Grades_over_edge k_Grades_place k_Grades_to_next k_l_add k_l_draw k_l_frac k_l_fraction k_l_is k_l_ladder k_l_lt k_l_mul k_l_sub k_regraded
end Pl
open PySem PySem.W PySem.Calls PyProof.Rows
theorem PySem.Challenge.cw_fairmarks_k41_grades_cut_finer_holds : PySem.Challenge.rw_fairmarks_k41_grades_cut_finer.Holds := by
  w_on; o_law
  refine HandSHeadRun.head_imp (r := OpenLaw.row PySem.Challenge.rw_fairmarks_k41_grades_cut_finer) (q := view (OpenLaw.row PySem.Challenge.rw_fairmarks_k41_grades_cut_finer).prog [0, 28]) (H := Pl.hkL) (ob := Pl.obL) (M := 20000) (loose := Pl.loose) (d := HandSHeadRun.topDef (OpenLaw.row PySem.Challenge.rw_fairmarks_k41_grades_cut_finer).prog 28) (kwd := []) Pl.obL_eq
    Pl.runL (by kernel_rfl) (by kernel_rfl) (by kernel_rfl) (by rfl) (by first | assumption | decide +kernel) (by decide +kernel) ⟨rfl, rfl, rfl, rfl, rfl, by decide +kernel⟩ ?hw ?hc
  case hw => w_witness2
  case hc =>
    refine L2.walk_ofE (l := PySem.Challenge.rw_fairmarks_k41_grades_cut_finer) (n := 63) (k := 6) (x := "script") (CX := L2.CX0) rfl (by decide) (by kernel_rfl) ⟨rfl, by decide, by decide⟩ ?F (fun _ _ _ _ z => z)
    intro w mg fa h Y G hmg0
    obtain ⟨K, KX, c⟩ := Y
    have hmg : mg ("law" : PySem.Str) = some (.ref fa) := by
      have e : (HandSHeadRun.topDef (OpenLaw.row PySem.Challenge.rw_fairmarks_k41_grades_cut_finer).prog 28).name = ("law" : PySem.Str) := by kernel_rfl
      rw [← e]
      exact hmg0
    obtain ⟨fd, hb, hF⟩ := Pl.factsL (P := (PySem.Challenge.rw_fairmarks_k41_grades_cut_finer).prog) (w := w) KX G hmg c
    exact ⟨K, fd, Pl.spLaw K, KX, hb, fun H a ns hl _ hS => ⟨a, ns, rfl, hS, fun _ => rfl⟩, hF⟩
end
