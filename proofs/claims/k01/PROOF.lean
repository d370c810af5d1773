import PyProof.Rows.All
import Wide.All
import OpenK.AllK
import Wide.FinOn
import HandS.ForMost
import HandS.ForExc
import HandS.Deep
import HandS.TupAny
import HandS.TupMul
import HandS.TupLe
import HandS.Codes
import HandS.Style
import HandS.IsInst
import HandS.Strs
import HandS.SortRule
import HandS.SortInts
import HandS.NamedTupSort
import HandS.Flow
import HandS.CallSlots
import HandS.Walk
import HandS.Text
import HandS.Conv
import HandS.WordsExc
import PySem.Challenge.RW_pegwright_k01_whole_sets_of_signs
section -- EvCore
/-! EvCore: plain data, a small syntax, its evaluator. Core Lean alone. -/
namespace Ev

/-- plain data -/
inductive D where
  | non
  | bl (b : Bool)
  | int (i : Int)
  | str (s : List Nat)
  | tup (xs : List D)
  | lst (xs : List D)
  | dct (ks vs : List D)
  | obj (c : Nat) (vs : List D)
  | clo (k : Nat) (vs : List D)
  deriving Inhabited

abbrev LIM : Nat := 16777216
abbrev Env := List (Option D)
def gv (ρ : Env) (i : Nat) : Option D := match ρ[i]? with
  | some x => x
  | none => none

/-! ### equality, order -/
mutual
def eqD : D → D → Bool
  | .non, .non => true
  | .bl a, .bl b => a == b
  | .bl a, .int b => (if a then 1 else 0) == b
  | .int a, .bl b => a == (if b then 1 else 0)
  | .int a, .int b => a == b
  | .str a, .str b => a == b
  | .tup xs, .tup ys => eqL xs ys
  | .lst xs, .lst ys => eqL xs ys
  | _, _ => false
def eqL : List D → List D → Bool
  | [], [] => true
  | x :: xs, y :: ys => eqD x y && eqL xs ys
  | _, _ => false
end
mutual
/-- data of None, bools, ints, texts, tuples, lists alone -/
def plainD : D → Bool
  | .non => true
  | .bl _ => true
  | .int _ => true
  | .str _ => true
  | .tup xs => plainL xs
  | .lst xs => plainL xs
  | _ => false
def plainL : List D → Bool
  | [] => true
  | x :: xs => plainD x && plainL xs
end
mutual
def depthD : D → Nat
  | .tup xs => depthL xs + 1
  | .lst xs => depthL xs + 1
  | _ => 0
def depthL : List D → Nat
  | [] => 0
  | x :: xs => max (depthD x) (depthL xs)
end
/-- the comparison is told -/
def okEq (a b : D) : Bool := plainD a && plainD b && decide (min (depthD a) (depthD b) ≤ 100)
def opEq (a b : D) : Option Bool := if okEq a b then some (eqD a b) else none

def ltS : List Nat → List Nat → Bool
  | [], [] => false
  | [], _ :: _ => true
  | _ :: _, [] => false
  | x :: xs, y :: ys => if x < y then true else if y < x then false else ltS xs ys
mutual
/-- one item below another: ints, texts, tuples of them -/
def ltD : D → D → Bool
  | .int a, .int b => decide (a < b)
  | .str a, .str b => ltS a b
  | .tup xs, .tup ys => ltL xs ys
  | _, _ => false
def ltL : List D → List D → Bool
  | [], [] => false
  | [], _ :: _ => true
  | _ :: _, [] => false
  | x :: xs, y :: ys => if eqD x y then ltL xs ys else ltD x y
end
mutual
/-- the order of two items is told: of one shape as far as it is asked -/
def okLt : D → D → Bool
  | .int _, .int _ => true
  | .str _, .str _ => true
  | .tup xs, .tup ys => okLtL xs ys
  | _, _ => false
def okLtL : List D → List D → Bool
  | [], _ => true
  | _, [] => true
  | x :: xs, y :: ys => okEq x y && (eqD x y || okLt x y) && okLtL xs ys
end
def opLt (a b : D) : Option Bool := if okLt a b && decide (min (depthD a) (depthD b) ≤ 100) then some (ltD a b) else none

/-! ### texts -/
def isPre : List Nat → List Nat → Bool
  | [], _ => true
  | _ :: _, [] => false
  | x :: xs, y :: ys => x == y && isPre xs ys
/-- the first place of a text in another -/
def findS : List Nat → List Nat → Nat → Option Nat
  | x, [], k => if x.isEmpty then some k else none
  | x, y :: ys, k => if isPre x (y :: ys) then some k else findS x ys (k + 1)
def infixS (x y : List Nat) : Bool := (findS x y 0).isSome

def anyEq (x : D) : List D → Bool
  | [] => false
  | y :: ys => eqD y x || anyEq x ys
def allOk (x : D) : List D → Bool
  | [] => true
  | y :: ys => okEq y x && allOk x ys
/-- x in c -/
def opIn (x c : D) : Option Bool := match c with
  | .tup ys => if allOk x ys then some (anyEq x ys) else none
  | .lst ys => if allOk x ys then some (anyEq x ys) else none
  | .dct ks _ => if allOk x ks then some (anyEq x ks) else none
  | .str t => match x with
    | .str s => some (infixS s t)
    | _ => none
  | _ => none

inductive CmpK where
  | eq | ne | lt | le | gt | ge | is_ | isnot | in_ | notin
  deriving DecidableEq
def opIs (a b : D) : Option Bool := match b with
  | .non => match a with
    | .non => some true
    | _ => some false
  | .bl k => match a with
    | .bl j => some (j == k)
    | _ => none
  | _ => none
def opCmp : CmpK → D → D → Option Bool
  | .eq, a, b => opEq a b
  | .ne, a, b => (opEq a b).map (!·)
  | .lt, a, b => opLt a b
  | .gt, .int a, .int b => some (decide (b < a))
  | .gt, .str a, .str b => some (ltS b a)
  | .le, .int a, .int b => some (decide (a ≤ b))
  | .le, .str a, .str b => some (!ltS b a)
  | .ge, .int a, .int b => some (decide (b ≤ a))
  | .ge, .str a, .str b => some (!ltS a b)
  | .is_, a, b => opIs a b
  | .isnot, a, b => (opIs a b).map (!·)
  | .in_, a, b => opIn a b
  | .notin, a, b => (opIn a b).map (!·)
  | _, _, _ => none

/-! ### arithmetic -/
inductive BinK where
  | add | sub | mul | fdiv | mod | pow | band | bor
  deriving DecidableEq
abbrev B64 : Int := 18446744073709551616
def bitNotI (i : Int) : Int := -i - 1
def opBin : BinK → D → D → Option D
  | .add, .int a, .int b => some (.int (a + b))
  | .add, .str a, .str b => if a.length + b.length ≤ LIM then some (.str (a ++ b)) else none
  | .add, .tup a, .tup b => if a.length + b.length ≤ LIM then some (.tup (a ++ b)) else none
  | .add, .lst a, .lst b => if a.length + b.length ≤ LIM then some (.lst (a ++ b)) else none
  | .sub, .int a, .int b => some (.int (a - b))
  | .mul, .int a, .int b => if (-B64 < a ∧ a < B64) ∨ (-B64 < b ∧ b < B64) then some (.int (a * b)) else none
  | .mul, .lst a, .int k => if 0 ≤ k ∧ k < 1000000 ∧ a.length * k.toNat ≤ LIM then some (.lst (List.replicate k.toNat a).flatten) else none
  | .mul, .tup a, .int k => if a.isEmpty = false ∧ 2 ≤ k ∧ k ≤ 1000 ∧ a.length ≤ 1000 then some (.tup (List.replicate k.toNat a).flatten) else none
  | .fdiv, .int a, .int b => if b ≠ 0 ∧ b.natAbs < 1073741824 then some (.int (a.fdiv b)) else none
  | .mod, .int a, .int b => if b ≠ 0 then some (.int (a.fmod b)) else none
  | .pow, .int a, .int b => if 0 ≤ b ∧ b ≤ 1000000 ∧ a.natAbs < 18446744073709551616 then some (.int (a ^ b.toNat)) else none
  | _, _, _ => none

/-! ### truth, length, places -/
def truthD : D → Option Bool
  | .non => some false
  | .bl b => some b
  | .int i => some (i != 0)
  | .str s => some (!s.isEmpty)
  | .tup xs => some (!xs.isEmpty)
  | .lst xs => some (!xs.isEmpty)
  | .dct ks _ => some (!ks.isEmpty)
  | _ => none
def lenD : D → Option Nat
  | .str s => some s.length
  | .tup xs => some xs.length
  | .lst xs => some xs.length
  | .dct ks _ => some ks.length
  | _ => none
/-- the place that an index of any sign means -/
def ixI (n : Nat) (i : Int) : Option Nat := if 0 ≤ i then (if i < n then some i.toNat else none) else if -(n : Int) ≤ i then some (i + n).toNat else none
def atD {α : Type} (xs : List α) (i : Int) : Option α := (ixI xs.length i).bind fun j => xs[j]?
def lookD (k : D) : List D → List D → Option D
  | x :: xs, v :: vs => if eqD x k then some v else lookD k xs vs
  | _, _ => none
def opSub (a i : D) : Option D := match a, i with
  | .tup xs, .int k => atD xs k
  | .lst xs, .int k => atD xs k
  | .str s, .int k => (atD s k).map fun c => .str [c]
  | .dct ks vs, k => if allOk k ks then lookD k ks vs else none
  | _, _ => none
/-- where a slice's part lies -/
def sliceIx (n dflt : Nat) : D → Option Nat
  | .non => some dflt
  | .int i => some (if i < 0 then (i + n).toNat else min i.toNat n)
  | _ => none
def cutL {α : Type} (xs : List α) (l h : Nat) : List α := (xs.drop l).take (h - l)
def opSlice (a lo hi : D) : Option D := match a with
  | .tup xs => (sliceIx xs.length 0 lo).bind fun l => (sliceIx xs.length xs.length hi).map fun h => .tup (cutL xs l h)
  | .lst xs => (sliceIx xs.length 0 lo).bind fun l => (sliceIx xs.length xs.length hi).map fun h => .lst (cutL xs l h)
  | .str xs => (sliceIx xs.length 0 lo).bind fun l => (sliceIx xs.length xs.length hi).map fun h => .str (cutL xs l h)
  | _ => none
def opRev (a : D) : Option D := match a with
  | .lst xs => some (.lst xs.reverse)
  | _ => none

/-! ### sorting -/
def insD (x : D) : List D → List D
  | [] => [x]
  | y :: ys => if ltD x y then x :: y :: ys else y :: insD x ys
/-- stable: each item goes behind those that it is not below -/
def sortD : List D → List D
  | [] => []
  | x :: xs => insRev x (sortD xs)
where
  /-- x stands ahead of the equal ones (it came first) -/
  insRev (x : D) : List D → List D
    | [] => [x]
    | y :: ys => if ltD y x then y :: insRev x ys else x :: y :: ys
def isIntD : D → Bool
  | .int _ => true
  | _ => false
def isStrD : D → Bool
  | .str _ => true
  | _ => false
def isTupD : D → Bool
  | .tup _ => true
  | _ => false
def headIs (p : D → Bool) : D → Bool
  | .tup (x :: _) => p x
  | _ => false
/-- all pairs can be told, and lie in one shape -/
def sortable (xs : List D) : Bool := (xs.all fun x => decide (depthD x ≤ 100) && xs.all fun y => okLt x y) &&
  (xs.all isIntD || xs.all isStrD || xs.all (headIs isIntD) || xs.all (headIs isStrD) || xs.all (headIs isTupD))

/-! ### built-ins -/
inductive BI where
  | len | tuple | list | sorted | all | any | sum | min2 | max2 | abs | int | str | ord
  deriving DecidableEq
def allB : List D → Option Bool
  | [] => some true
  | .bl b :: xs => (allB xs).map (b && ·)
  | _ => none
def anyB : List D → Option Bool
  | [] => some false
  | .bl b :: xs => (anyB xs).map (b || ·)
  | _ => none
def sumI : List D → Option Int
  | [] => some 0
  | .int i :: xs => (sumI xs).map (i + ·)
  | _ => none
def seqD : D → Option (List D)
  | .tup xs => some xs
  | .lst xs => some xs
  | _ => none
/-- what a for walks -/
def itemsD : D → Option (List D)
  | .tup xs => some xs
  | .lst xs => some xs
  | .str s => some (s.map fun c => .str [c])
  | .dct ks _ => some ks
  | _ => none
def opB : BI → List D → Option D
  | .len, [d] => (lenD d).map fun (n : Nat) => D.int (n : Int)
  | .tuple, [d] => (seqD d).map .tup
  | .list, [d] => (seqD d).map .lst
  | .sorted, [d] => match seqD d with
    | some xs => if sortable xs then some (.lst (sortD xs)) else none
    | none => none
  | .all, [.lst xs] => (allB xs).map .bl
  | .any, [.lst xs] => (anyB xs).map .bl
  | .sum, [.lst xs] => (sumI xs).map .int
  | .min2, [.int a, .int b] => some (.int (if b < a then b else a))
  | .max2, [.int a, .int b] => some (.int (if b > a then b else a))
  | .abs, [.int a] => some (.int (if a < 0 then -a else a))
  | .int, [.int a] => some (.int a)
  | .int, [.bl b] => some (.int (if b then 1 else 0))
  | .ord, [.str [c]] => some (.int c)
  | _, _ => none
inductive TyK where
  | int | bool | str | tuple | list | dict
  deriving DecidableEq
def isTy : D → TyK → Option Bool
  | .non, _ => some false
  | .bl _, t => some (t == .bool || t == .int)
  | .int _, t => some (t == .int)
  | .str _, t => some (t == .str)
  | .tup _, t => some (t == .tuple)
  | .lst _, t => some (t == .list)
  | .dct _ _, t => some (t == .dict)
  | .obj _ _, _ => some false
  | .clo _ _, _ => some false
inductive MK where
  | find | join | index
  deriving DecidableEq
/-- the texts of a row -/
def strsOf : List D → Option (List (List Nat))
  | [] => some []
  | .str s :: r => (strsOf r).map (s :: ·)
  | _ => none
def joinL (sep : List Nat) : List (List Nat) → List Nat
  | [] => []
  | [s] => s
  | s :: rest => s ++ sep ++ joinL sep rest
def indexD (x : D) : List D → Nat → Option Nat
  | [], _ => none
  | y :: ys, k => if eqD y x then some k else indexD x ys (k + 1)
/-- what a method is asked of -/
def recvOk : MK → D → Bool
  | .find, .str _ => true
  | .join, .str _ => true
  | _, _ => false
def opM : MK → D → List D → Option D
  | .find, .str t, [.str s] => some (.int (match findS s t 0 with | some k => (k : Int) | none => -1))
  | .join, .str sep, [x] => ((seqD x).bind strsOf).bind fun ys => if (ys.map (·.length)).sum + ys.length * sep.length ≤ LIM then some (.str (joinL sep ys)) else none
  | _, _, _ => none

/-! ### syntax -/
/-- how a parameter is handed over: shared, only read, changed by the callee -/
inductive PM where
  | shr | bor | io
  deriving DecidableEq
inductive T where
  | name (i : Nat)
  | tup (ts : List T)
inductive E where
  | con (d : D)
  | glob (d : D)
  | var (i : Nat)
  | bvar (i : Nat)
  | bin (op : BinK) (a b : E)
  | neg (a : E)
  | cmp (op : CmpK) (a b : E)
  | chain (op op' : CmpK) (a b c : E)
  | andL (es : List E)
  | orL (es : List E)
  | not_ (a : E)
  | ite (c a b : E)
  | tup (es : List E)
  | lst (es : List E)
  | sub (a i : E)
  | slice (a lo hi : E)
  | rev (a : E)
  | call (f : Nat) (ms : List PM) (es : List E)
  | bi (b : BI) (es : List E)
  | isinst (a : E) (t : TyK)
  | meth (m : MK) (a : E) (es : List E)
  | rng (es : List E)
  | comp (elt : E) (t : T) (it : E) (ifs : List E) (own : List Nat)
inductive S where
  | asg (t : T) (e : E)
  | asgO (i : Nat) (e : E)
  | asgM (i j : Nat)
  | par (is : List Nat) (es : List E)
  | aug (i : Nat) (op : BinK) (e : E)
  | setI (i : Nat) (k e : E)
  | append (i : Nat) (e : E)
  | expr (e : E)
  | ret (e : E)
  | retM (i : Nat)
  | retN
  | ite (c : E) (a b : List S)
  | whil (c : E) (b : List S)
  | for_ (t : T) (it : E) (b : List S)
  | pass
  | brk
  | cont

/-! ### the evaluator -/
inductive Out (α : Type) where
  | ok (a : α) (ρ : Env)
  | exc (c : Nat) (p : D) (ρ : Env)
  | stuck
def Out.bind {α β : Type} (o : Out α) (f : α → Env → Out β) : Out β := match o with
  | .ok a ρ => f a ρ
  | .exc c p ρ => .exc c p ρ
  | .stuck => .stuck
def lift {α : Type} (o : Option α) (ρ : Env) : Out α := match o with
  | some a => .ok a ρ
  | none => .stuck
/-- a call's end: the value, the changed parameters -/
inductive COut where
  | ok (d : D) (outs : List D)
  | exc (c : Nat) (p : D) (outs : List D)
  | stuck
/-- what a call changed goes back into the names that were handed over -/
def putIO : List PM → List E → List D → Env → Env
  | .io :: ms, .bvar i :: es, d :: ds, ρ => putIO ms es ds (ρ.set i (some d))
  | .io :: ms, _ :: es, ds, ρ => putIO ms es ds ρ
  | _ :: ms, _ :: es, ds, ρ => putIO ms es ds ρ
  | _, _, _, ρ => ρ
/-- a name that is handed over stands for what it holds at the call -/
def reread : List E → List D → Env → Option (List D)
  | .bvar i :: es, _ :: ds, ρ => (gv ρ i).bind fun d => (reread es ds ρ).map (d :: ·)
  | _ :: es, d :: ds, ρ => (reread es ds ρ).map (d :: ·)
  | _, _, _ => some []
def rangeD (lo hi : Int) : List D := (List.range (hi - lo).toNat).map fun (k : Nat) => .int (lo + k)
abbrev P62 : Int := 4611686018427387904
def opRng : List D → Option D
  | [.int j] => if -P62 ≤ j ∧ j < P62 ∧ j ≤ LIM then some (.lst (rangeD 0 j)) else none
  | [.int i, .int j] => if -P62 ≤ i ∧ i < P62 ∧ -P62 ≤ j ∧ j < P62 ∧ j - i ≤ LIM then some (.lst (rangeD i j)) else none
  | _ => none
mutual
def bindT : T → D → Env → Option Env
  | .name i, d, ρ => some (ρ.set i (some d))
  | .tup ts, .tup ds, ρ => if ts.length = ds.length then bindTs ts ds ρ else none
  | .tup _, _, _ => none
def bindTs : List T → List D → Env → Option Env
  | t :: ts, d :: ds, ρ => (bindT t d ρ).bind (bindTs ts ds)
  | _, _, ρ => some ρ
end
/-- the names of a comprehension as they were -/
def restore (own : List Nat) (ρ0 ρ : Env) : Env := match own with
  | [] => ρ
  | i :: is => (restore is ρ0 ρ).set i (gv ρ0 i)
def wipeE (own : List Nat) (ρ : Env) : Env := match own with
  | [] => ρ
  | i :: is => (wipeE is ρ).set i none
/-- the loop of a comprehension, no exception within -/
def compLoop (step : D → Env → Out (Option D)) : List D → List D → Env → Out (List D)
  | [], acc, ρ => .ok acc ρ
  | x :: xs, acc, ρ => match step x ρ with
    | .ok (some d) ρ' => compLoop step xs (acc ++ [d]) ρ'
    | .ok none ρ' => compLoop step xs acc ρ'
    | _ => .stuck
/-- a slice's part: left out, or an int -/
def partOk : E → D → Bool
  | .con .non, .non => true
  | .con .non, _ => false
  | _, .int _ => true
  | _, _ => false
abbrev CF := Nat → List D → COut
variable (cf : CF)
mutual
def evE : E → Env → Out D
  | .con d, ρ => .ok d ρ
  | .glob d, ρ => .ok d ρ
  | .var i, ρ => lift (gv ρ i) ρ
  | .bvar i, ρ => lift (gv ρ i) ρ
  | .bin op a b, ρ => (evE a ρ).bind fun x ρ => (evE b ρ).bind fun y ρ => lift (opBin op x y) ρ
  | .neg a, ρ => (evE a ρ).bind fun x ρ => match x with
    | .int i => .ok (.int (-i)) ρ
    | _ => .stuck
  | .cmp op a b, ρ => (evE a ρ).bind fun x ρ => (evE b ρ).bind fun y ρ => lift ((opCmp op x y).map .bl) ρ
  | .chain op op' a b c, ρ => (evE a ρ).bind fun x ρ => (evE b ρ).bind fun y ρ => match opCmp op x y with
    | some true => (evE c ρ).bind fun z ρ => lift ((opCmp op' y z).map .bl) ρ
    | some false => .ok (.bl false) ρ
    | none => .stuck
  | .andL es, ρ => evAnd es ρ
  | .orL es, ρ => evOr es ρ
  | .not_ a, ρ => (evE a ρ).bind fun x ρ => lift ((truthD x).map fun b => .bl (!b)) ρ
  | .ite c a b, ρ => (evE c ρ).bind fun x ρ => match truthD x with
    | some true => evE a ρ
    | some false => evE b ρ
    | none => .stuck
  | .tup es, ρ => (evEs es ρ).bind fun xs ρ => .ok (.tup xs) ρ
  | .lst es, ρ => (evEs es ρ).bind fun xs ρ => .ok (.lst xs) ρ
  | .sub a i, ρ => (evE a ρ).bind fun x ρ => (evE i ρ).bind fun y ρ => lift (opSub x y) ρ
  | .slice a lo hi, ρ => (evE a ρ).bind fun x ρ => (evE lo ρ).bind fun l ρ => if partOk lo l then (evE hi ρ).bind fun h ρ => if partOk hi h then lift (opSlice x l h) ρ else .stuck else .stuck
  | .rev a, ρ => (evE a ρ).bind fun x ρ => lift (opRev x) ρ
  | .call f ms es, ρ => (evEs es ρ).bind fun xs ρ => match reread es xs ρ with
    | none => .stuck
    | some xs => match cf f xs with
      | .ok d outs => .ok d (putIO ms es outs ρ)
      | .exc c p outs => .exc c p (putIO ms es outs ρ)
      | .stuck => .stuck
  | .bi b es, ρ => (evEs es ρ).bind fun xs ρ => lift (opB b xs) ρ
  | .isinst a t, ρ => (evE a ρ).bind fun x ρ => lift ((isTy x t).map .bl) ρ
  | .meth m a es, ρ => (evE a ρ).bind fun x ρ => if recvOk m x then (evEs es ρ).bind fun xs ρ => lift (opM m x xs) ρ else .stuck
  | .rng es, ρ => (evEs es ρ).bind fun xs ρ => lift (opRng xs) ρ
  | .comp elt t it ifs own, ρ => (evE it ρ).bind fun x ρ0 => match itemsD x with
    | none => .stuck
    | some xs => match compLoop (fun x ρ => match bindT t x ρ with
        | none => .stuck
        | some ρ => match evAll ifs ρ with
          | .ok true ρ => match evE elt ρ with
            | .ok d ρ => .ok (some d) (wipeE own ρ)
            | _ => .stuck
          | .ok false ρ => .ok none (wipeE own ρ)
          | _ => .stuck) xs [] (wipeE own ρ0) with
      | .ok ds ρ => .ok (.lst ds) (restore own ρ0 ρ)
      | _ => .stuck
def evEs : List E → Env → Out (List D)
  | [], ρ => .ok [] ρ
  | e :: es, ρ => (evE e ρ).bind fun x ρ => (evEs es ρ).bind fun xs ρ => .ok (x :: xs) ρ
def evAnd : List E → Env → Out D
  | [], _ => .stuck
  | [e], ρ => evE e ρ
  | e :: es, ρ => (evE e ρ).bind fun x ρ => match truthD x with
    | some true => evAnd es ρ
    | some false => .ok x ρ
    | none => .stuck
def evOr : List E → Env → Out D
  | [], _ => .stuck
  | [e], ρ => evE e ρ
  | e :: es, ρ => (evE e ρ).bind fun x ρ => match truthD x with
    | some true => .ok x ρ
    | some false => evOr es ρ
    | none => .stuck
/-- the tests of a comprehension -/
def evAll : List E → Env → Out Bool
  | [], ρ => .ok true ρ
  | e :: es, ρ => (evE e ρ).bind fun x ρ => match truthD x with
    | some true => evAll es ρ
    | some false => .ok false ρ
    | none => .stuck
end

/-- a statement's end -/
inductive SOut where
  | next (ρ : Env)
  | ret (d : D) (ρ : Env)
  | brk (ρ : Env)
  | cont (ρ : Env)
  | exc (c : Nat) (p : D) (ρ : Env)
  | stuck
def SOut.then (o : SOut) (f : Env → SOut) : SOut := match o with
  | .next ρ => f ρ
  | o => o
def Out.toS {α : Type} (o : Out α) (f : α → Env → SOut) : SOut := match o with
  | .ok a ρ => f a ρ
  | .exc c p ρ => .exc c p ρ
  | .stuck => .stuck
def forLoop (body : D → Env → SOut) : List D → Env → SOut
  | [], ρ => .next ρ
  | x :: xs, ρ => match body x ρ with
    | .next ρ => forLoop body xs ρ
    | .cont ρ => forLoop body xs ρ
    | .brk ρ => .next ρ
    | o => o
def whileLoop (step : Env → Out Bool) (body : Env → SOut) : Nat → Env → SOut
  | 0, _ => .stuck
  | n + 1, ρ => (step ρ).toS fun b ρ => if b then match body ρ with
      | .next ρ => whileLoop step body n ρ
      | .cont ρ => whileLoop step body n ρ
      | .brk ρ => .next ρ
      | o => o
    else .next ρ
/-- the names' values stored one by one -/
def putAll : List Nat → List D → Env → Env
  | i :: is, d :: ds, ρ => putAll is ds (ρ.set i (some d))
  | _, _, ρ => ρ
def isMut : D → Bool
  | .lst _ => true
  | .dct _ _ => true
  | .obj _ _ => true
  | _ => false
def testE (c : E) (ρ : Env) : Out Bool := (evE cf c ρ).bind fun x ρ => lift (truthD x) ρ
def setD : List D → List D → D → D → List D × List D
  | k :: ks, v :: vs, x, y => if eqD k x then (k :: ks, y :: vs) else (k :: (setD ks vs x y).1, v :: (setD ks vs x y).2)
  | _, _, x, y => ([x], [y])
def opSet (a k e : D) : Option D := match a, k with
  | .lst xs, .int i => (ixI xs.length i).map fun j => .lst (xs.set j e)
  | .dct ks vs, k => if allOk k ks && decide (ks.length < LIM) then some (.dct (setD ks vs k e).1 (setD ks vs k e).2) else none
  | _, _ => none
variable (wf : Nat)
mutual
def evS : S → Env → SOut
  | .asg t e, ρ => (evE cf e ρ).toS fun d ρ => match bindT t d ρ with
    | some ρ => .next ρ
    | none => .stuck
  | .asgO i e, ρ => (evE cf e ρ).toS fun d ρ => if isMut d then .next (ρ.set i (some d)) else .stuck
  | .asgM i j, ρ => match gv ρ j with
    | some d => .next ((ρ.set j none).set i (some d))
    | none => .stuck
  | .par is es, ρ => (evEs cf es ρ).toS fun ds ρ => .next (putAll is ds ρ)
  | .aug i op e, ρ => match gv ρ i with
    | some (.int a) => (evE cf e ρ).toS fun y ρ => match y with
      | .int b => match opBin op (.int a) (.int b) with
        | some z => .next (ρ.set i (some z))
        | none => .stuck
      | _ => .stuck
    | _ => .stuck
  | .setI i k e, ρ => (evE cf e ρ).toS fun y ρ => match gv ρ i with
    | some (.lst _) => (evE cf k ρ).toS fun k ρ => match gv ρ i with
      | none => .stuck
      | some a => match opSet a k y with
        | some b => .next (ρ.set i (some b))
        | none => .stuck
    | _ => .stuck
  | .append i e, ρ => match gv ρ i with
    | some (.lst _) => (evE cf e ρ).toS fun y ρ => match gv ρ i with
      | some (.lst xs) => if xs.length < LIM then .next (ρ.set i (some (.lst (xs ++ [y])))) else .stuck
      | _ => .stuck
    | _ => .stuck
  | .expr e, ρ => (evE cf e ρ).toS fun _ ρ => .next ρ
  | .ret e, ρ => (evE cf e ρ).toS fun d ρ => .ret d ρ
  | .retM i, ρ => match gv ρ i with
    | some d => .ret d ρ
    | none => .stuck
  | .retN, ρ => .ret .non ρ
  | .ite c a b, ρ => (testE cf c ρ).toS fun t ρ => if t then evSs a ρ else evSs b ρ
  | .whil c b, ρ => whileLoop (testE cf c) (fun ρ => evSs b ρ) wf ρ
  | .for_ t it b, ρ => (evE cf it ρ).toS fun x ρ => match itemsD x with
    | none => .stuck
    | some xs => forLoop (fun x ρ => match bindT t x ρ with
      | some ρ => evSs b ρ
      | none => .stuck) xs ρ
  | .pass, ρ => .next ρ
  | .brk, ρ => .brk ρ
  | .cont, ρ => .cont ρ
def evSs : List S → Env → SOut
  | [], ρ => .next ρ
  | s :: ss, ρ => (evS s ρ).then fun ρ => evSs ss ρ
end

/-- a def: how its parameters come, how many names it has, whether it hands back what it made, its body -/
structure Fn where
  ms : List PM
  n : Nat
  fresh : Bool
  body : List S
def outsOf : List PM → Env → List D
  | .io :: ms, ρ => match ρ with
    | some d :: r => d :: outsOf ms r
    | _ :: r => .non :: outsOf ms r
    | [] => []
  | _ :: ms, ρ => outsOf ms ρ.tail
  | [], _ => []
def startE (n : Nat) (ds : List D) : Env := ds.map some ++ List.replicate (n - ds.length) none
def finE (ms : List PM) : SOut → COut
  | .next ρ => .ok .non (outsOf ms ρ)
  | .ret d ρ => .ok d (outsOf ms ρ)
  | .exc c p ρ => .exc c p (outsOf ms ρ)
  | _ => .stuck
/-- the program by numbers; n: how deep calls may go -/
def evF (fs : Nat → Option Fn) (wf : Nat) : Nat → CF
  | 0, _, _ => .stuck
  | n + 1, f, ds => match fs f with
    | none => .stuck
    | some g => if ds.length = g.ms.length then finE g.ms (evSs (evF fs wf n) wf g.body (startE g.n ds)) else .stuck
end Ev
end -- EvCore

section -- EvRep
set_option Elab.async false
set_option linter.all false
set_option maxRecDepth 100000
/-! EvRep: how plain data lies in the abstract heap; what a body's state says of an evaluator's environment. -/
namespace Ev
open PySem L2

abbrev mkS (s : List Nat) : Str := ⟨s.toArray⟩
/-- a text that the model takes -/
def StrB (s : List Nat) : Prop := s.length ≤ LIM ∧ ∀ c ∈ s, c < 1114112
def StatT (K : PySem.W.Frag) (a : Addr) (xs : List V) : Prop :=
  ∃ (o : Obj) (its : Array Value) (n : Nat), K.lookup a = some o ∧ o.cls = .type "tuple" ∧ o.data = .seq its n ∧ its.size ≤ sizeLine ∧ Vals xs its.toList
def StatL (K : PySem.W.Frag) (a : Addr) (xs : List V) : Prop :=
  ∃ (o : Obj) (its : Array Value) (n : Nat), K.lookup a = some o ∧ o.cls = .type "list" ∧ o.dict = none ∧ o.data = .seq its n ∧ its.size ≤ sizeLine ∧ Vals xs its.toList
def TupAt (K : PySem.W.Frag) (R : Addr → Prop) (H : Hp) (a : Addr) (xs : List V) : Prop := (Rd H a (.tup xs) ∧ ¬ R a) ∨ StatT K a xs
def LstAt (K : PySem.W.Frag) (R : Addr → Prop) (H : Hp) (a : Addr) (xs : List V) : Prop := (Rd H a (.lst xs) ∧ ¬ R a) ∨ StatL K a xs
theorem TupAt.sq {K : PySem.W.Frag} {R : Addr → Prop} {H : Hp} {a : Addr} {xs : List V} (h : TupAt K R H a xs) : SqT K H a xs := by
  rcases h with ⟨h, _⟩ | h
  · exact .inl h
  · exact .inr h
theorem LstAt.sq {K : PySem.W.Frag} {R : Addr → Prop} {H : Hp} {a : Addr} {xs : List V} (h : LstAt K R H a xs) : SqL K H a xs := by
  rcases h with ⟨h, _⟩ | h
  · exact .inl h
  · exact .inr h

mutual
/-- the value v is the data d; nothing of it lies in R -/
inductive Rep (K : PySem.W.Frag) (R : Addr → Prop) (H : Hp) : D → V → Prop
  | non : Rep K R H .non .non
  | bl (b : Bool) : Rep K R H (.bl b) (.bl b)
  | int (i : Int) : Rep K R H (.int i) (.int i)
  | str (s : List Nat) : StrB s → Rep K R H (.str s) (.str (mkS s))
  | tup {a : Addr} {vs : List V} {ds : List D} : TupAt K R H a vs → RepL K R H ds vs → ds.length ≤ LIM → Rep K R H (.tup ds) (.ref a)
  | lst {a : Addr} {vs : List V} {ds : List D} : LstAt K R H a vs → RepL K R H ds vs → ds.length ≤ LIM → Rep K R H (.lst ds) (.ref a)
inductive RepL (K : PySem.W.Frag) (R : Addr → Prop) (H : Hp) : List D → List V → Prop
  | nil : RepL K R H [] []
  | cons {d : D} {v : V} {ds : List D} {vs : List V} : Rep K R H d v → RepL K R H ds vs → RepL K R H (d :: ds) (v :: vs)
end
section
variable {K : PySem.W.Frag} {R R' : Addr → Prop} {H H' : Hp}
theorem RepL.length : ∀ {ds : List D} {vs : List V}, RepL K R H ds vs → ds.length = vs.length
  | _, _, .nil => rfl
  | _, _, .cons _ t => by rw [List.length_cons, List.length_cons, t.length]
theorem RepL.get : ∀ {ds : List D} {vs : List V} {i : Nat} {d : D}, RepL K R H ds vs → ds[i]? = some d → ∃ v, vs[i]? = some v ∧ Rep K R H d v
  | _, _, _, _, .nil, e => by simp at e
  | _, _, 0, _, .cons r _, e => by simp at e; subst e; exact ⟨_, rfl, r⟩
  | _, _, i + 1, _, .cons _ t, e => by
    obtain ⟨v, h1, h2⟩ := RepL.get (i := i) t (by simpa using e)
    exact ⟨v, by simpa using h1, h2⟩
theorem RepL.get' : ∀ {ds : List D} {vs : List V} {i : Nat} {v : V}, RepL K R H ds vs → vs[i]? = some v → ∃ d, ds[i]? = some d ∧ Rep K R H d v
  | _, _, _, _, .nil, e => by simp at e
  | _, _, 0, _, .cons r _, e => by simp at e; subst e; exact ⟨_, rfl, r⟩
  | _, _, i + 1, _, .cons _ t, e => by
    obtain ⟨v, h1, h2⟩ := RepL.get' (i := i) t (by simpa using e)
    exact ⟨v, by simpa using h1, h2⟩
theorem RepL.append : ∀ {ds es : List D} {vs ws : List V}, RepL K R H ds vs → RepL K R H es ws → RepL K R H (ds ++ es) (vs ++ ws)
  | _, _, _, _, .nil, s => s
  | _, _, _, _, .cons r t, s => .cons r (t.append s)
theorem RepL.take : ∀ {ds : List D} {vs : List V} (n : Nat), RepL K R H ds vs → RepL K R H (ds.take n) (vs.take n)
  | _, _, 0, _ => .nil
  | _, _, _ + 1, .nil => .nil
  | _, _, n + 1, .cons r t => .cons r (t.take n)
theorem RepL.drop : ∀ {ds : List D} {vs : List V} (n : Nat), RepL K R H ds vs → RepL K R H (ds.drop n) (vs.drop n)
  | _, _, 0, r => r
  | _, _, _ + 1, .nil => .nil
  | _, _, n + 1, .cons _ t => t.drop n
theorem RepL.reverse {ds : List D} {vs : List V} (h : RepL K R H ds vs) : RepL K R H ds.reverse vs.reverse := by
  induction ds generalizing vs with
  | nil => cases h; exact .nil
  | cons d ds ih =>
    cases h with
    | cons r t => rw [List.reverse_cons, List.reverse_cons]; exact (ih t).append (.cons r .nil)
theorem RepL.set : ∀ {ds : List D} {vs : List V} (i : Nat) {d : D} {v : V}, RepL K R H ds vs → Rep K R H d v → RepL K R H (ds.set i d) (vs.set i v)
  | _, _, _, _, _, .nil, _ => .nil
  | _, _, 0, _, _, .cons _ t, r => .cons r t
  | _, _, i + 1, _, _, .cons q t, r => .cons q (t.set i r)
theorem RepL.rep {ds : List D} {vs : List V} (h : RepL K R H ds vs) : ∀ k : Nat, RepL K R H (List.replicate k ds).flatten (List.replicate k vs).flatten
  | 0 => .nil
  | k + 1 => by
    rw [List.replicate_succ, List.replicate_succ, List.flatten_cons, List.flatten_cons]
    exact h.append (h.rep k)

/-- the heap and what is shut out may change, as long as what is not shut out stays -/
theorem TupAt.mono (hk : ∀ a o, H a = some o → ¬ R a → H' a = some o ∧ ¬ R' a) {a : Addr} {xs : List V} (h : TupAt K R H a xs) : TupAt K R' H' a xs := by
  rcases h with ⟨h | ⟨o, h⟩, n⟩ | h
  · exact .inl ⟨.inl (hk _ _ h n).1, (hk _ _ h n).2⟩
  · exact .inl ⟨.inr ⟨o, (hk _ _ h n).1⟩, (hk _ _ h n).2⟩
  · exact .inr h
theorem LstAt.mono (hk : ∀ a o, H a = some o → ¬ R a → H' a = some o ∧ ¬ R' a) {a : Addr} {xs : List V} (h : LstAt K R H a xs) : LstAt K R' H' a xs := by
  rcases h with ⟨h | ⟨o, h⟩, n⟩ | h
  · exact .inl ⟨.inl (hk _ _ h n).1, (hk _ _ h n).2⟩
  · exact .inl ⟨.inr ⟨o, (hk _ _ h n).1⟩, (hk _ _ h n).2⟩
  · exact .inr h
mutual
theorem Rep.mono (hk : ∀ a o, H a = some o → ¬ R a → H' a = some o ∧ ¬ R' a) : ∀ {d : D} {v : V}, Rep K R H d v → Rep K R' H' d v
  | _, _, .non => .non
  | _, _, .bl b => .bl b
  | _, _, .int i => .int i
  | _, _, .str s z => .str s z
  | _, _, .tup h t z => .tup (h.mono hk) (RepL.mono hk t) z
  | _, _, .lst h t z => .lst (h.mono hk) (RepL.mono hk t) z
theorem RepL.mono (hk : ∀ a o, H a = some o → ¬ R a → H' a = some o ∧ ¬ R' a) : ∀ {ds : List D} {vs : List V}, RepL K R H ds vs → RepL K R' H' ds vs
  | _, _, .nil => .nil
  | _, _, .cons r t => .cons (Rep.mono hk r) (RepL.mono hk t)
end
end

/-! ### the names -/
inductive Mode where
  | shr | bor | own | io
  deriving DecidableEq
def Mode.isOwn : Mode → Bool
  | .own => true
  | .io => true
  | _ => false
def md (M : List Mode) (i : Nat) : Mode := M.getD i .shr
/-- the i-th name holds the object at a, and alone -/
def OwnI (M : List Mode) (ρ : Env) (σ : St) (i : Nat) (a : Addr) : Prop := (md M i).isOwn = true ∧ (∃ d, gv ρ i = some d) ∧ σ[i]? = some (some (.ref a))
def OwnA (M : List Mode) (ρ : Env) (σ : St) (a : Addr) : Prop := ∃ i, OwnI M ρ σ i a
/-- what values may not touch -/
def Rr (R0 : Addr → Prop) (M : List Mode) (ρ : Env) (σ : St) (a : Addr) : Prop := R0 a ∨ OwnA M ρ σ a
/-- a list that is only read: its items are values, it may lie anywhere -/
def BorOk (K : PySem.W.Frag) (R : Addr → Prop) (H : Hp) (d : D) (v : V) : Prop := match d with
  | .lst ds => ∃ a vs, v = .ref a ∧ SqL K H a vs ∧ RepL K R H ds vs ∧ ds.length ≤ LIM
  | d => Rep K R H d v
/-- a list held alone -/
def OwnOk (K : PySem.W.Frag) (R : Addr → Prop) (H : Hp) (d : D) (v : V) : Prop := match d with
  | .lst ds => ∃ a vs, v = .ref a ∧ H a = some (.lst vs) ∧ RepL K R H ds vs ∧ ds.length ≤ LIM
  | _ => False
def SlotOk (K : PySem.W.Frag) (R : Addr → Prop) (H : Hp) (m : Mode) (d : D) (v : V) : Prop := match m with
  | .shr => Rep K R H d v
  | .bor => BorOk K R H d v
  | .own => OwnOk K R H d v
  | .io => OwnOk K R H d v
/-- what is written at the top is not tracked -/
def KF (K : PySem.W.Frag) (H : Hp) : Prop := ∀ a o, K.lookup a = some o → H a = none
structure EnvOk (K : PySem.W.Frag) (R0 : Addr → Prop) (M : List Mode) (σ : St) (H : Hp) (ρ : Env) : Prop where
  len : ρ.length = σ.length
  slot : ∀ i d, gv ρ i = some d → ∃ v, σ[i]? = some (some v) ∧ SlotOk K (Rr R0 M ρ σ) H (md M i) d v
  dist : ∀ i j a, OwnI M ρ σ i a → OwnI M ρ σ j a → i = j
  bor : ∀ i a d, md M i = .bor → σ[i]? = some (some (.ref a)) → gv ρ i = some d → isMut d = true → ¬ OwnA M ρ σ a
  dom : ∀ a, R0 a → H a ≠ none
  kf : KF K H

section
variable {K : PySem.W.Frag} {R R0 : Addr → Prop} {H H' H2 : Hp} {M : List Mode} {σ σ' : St} {ρ ρ' ρ2 : Env} {d : D} {v : V}
theorem Rep.bor (h : Rep K R H d v) : BorOk K R H d v := by
  cases h with
  | non => exact .non
  | bl b => exact .bl b
  | int i => exact .int i
  | str s z => exact .str s z
  | tup h t z => exact .tup h t z
  | lst h t z => exact ⟨_, _, rfl, h.sq, t, z⟩
theorem OwnOk.bor (h : OwnOk K R H d v) : BorOk K R H d v := by
  cases d with
  | lst ds => obtain ⟨a, vs, e, h, t, z⟩ := h; exact ⟨a, vs, e, .inl (.inl h), t, z⟩
  | _ => exact h.elim
theorem SlotOk.bor {m : Mode} (h : SlotOk K R H m d v) : BorOk K R H d v := by
  cases m with
  | shr => exact Rep.bor h
  | bor => exact h
  | own => exact OwnOk.bor h
  | io => exact OwnOk.bor h
theorem EnvOk.domR (h : EnvOk K R0 M σ H ρ) {a : Addr} (ha : Rr R0 M ρ σ a) : H a ≠ none := by
  rcases ha with ha | ⟨i, hm, ⟨d, hd⟩, hs⟩
  · exact h.dom a ha
  · obtain ⟨v, e, q⟩ := h.slot i d hd
    rw [hs] at e; cases e
    have q' : OwnOk K (Rr R0 M ρ σ) H d (.ref a) := by
      cases e : md M i <;> rw [e] at q hm
      · cases hm
      · cases hm
      · exact q
      · exact q
    cases d with
    | lst ds =>
      obtain ⟨b, vs, e, hb, _⟩ := q'
      cases e
      rw [hb]; exact fun z => by cases z
    | _ => exact q'.elim
/-- what an expression may change -/
structure Frm (M : List Mode) (ρ : Env) (σ : St) (H H' : Hp) : Prop where
  keep : ∀ a o, H a = some o → ¬ OwnA M ρ σ a → H' a = some o
  there : ∀ a, H a ≠ none → H' a ≠ none
theorem Frm.refl : Frm M ρ σ H H := ⟨fun _ _ h _ => h, fun _ h => h⟩
/-- the same names hold things -/
def SameLive (ρ ρ' : Env) : Prop := ρ'.length = ρ.length ∧ ∀ i, (∃ d, gv ρ' i = some d) ↔ ∃ d, gv ρ i = some d
theorem SameLive.refl : SameLive ρ ρ := ⟨rfl, fun _ => Iff.rfl⟩
theorem SameLive.trans (h : SameLive ρ ρ') (h2 : SameLive ρ' ρ2) : SameLive ρ ρ2 := ⟨h2.1.trans h.1, fun i => (h2.2 i).trans (h.2 i)⟩
theorem SameLive.own (h : SameLive ρ ρ') {i : Nat} {a : Addr} : OwnI M ρ' σ i a ↔ OwnI M ρ σ i a := by
  unfold OwnI; rw [h.2 i]
theorem SameLive.ownA (h : SameLive ρ ρ') {a : Addr} : OwnA M ρ' σ a ↔ OwnA M ρ σ a := by
  unfold OwnA; exact exists_congr fun i => h.own
theorem SameLive.rr (h : SameLive ρ ρ') : Rr R0 M ρ' σ = Rr R0 M ρ σ := by
  funext a; unfold Rr; rw [h.ownA]
theorem Frm.trans (f : Frm M ρ σ H H') (l : SameLive ρ ρ') (g : Frm M ρ' σ H' H2) : Frm M ρ σ H H2 :=
  ⟨fun a o h n => g.keep a o (f.keep a o h n) fun z => n (l.ownA.mp z), fun a h => g.there a (f.there a h)⟩
/-- a value stays behind a frame -/
theorem Rep.frm (h : Rep K (Rr R0 M ρ σ) H d v) (f : Frm M ρ σ H H') : Rep K (Rr R0 M ρ σ) H' d v :=
  h.mono fun a o e n => ⟨f.keep a o e fun z => n (.inr z), n⟩
theorem RepL.frm {ds : List D} {vs : List V} (h : RepL K (Rr R0 M ρ σ) H ds vs) (f : Frm M ρ σ H H') : RepL K (Rr R0 M ρ σ) H' ds vs :=
  h.mono fun a o e n => ⟨f.keep a o e fun z => n (.inr z), n⟩
/-- what is wanted of an expression's value: a mutable thing that is new lies at an address that was free -/
def NewOk (K : PySem.W.Frag) (R : Addr → Prop) (H0 H : Hp) (d : D) (v : V) : Prop := match d with
  | .lst ds => ∃ a vs, v = .ref a ∧ H0 a = none ∧ H a = some (.lst vs) ∧ RepL K (fun b => R b ∨ b = a) H ds vs ∧ ds.length ≤ LIM
  | d => Rep K R H d v
def ValOk (K : PySem.W.Frag) (R : Addr → Prop) (fresh : Bool) (H0 H : Hp) (d : D) (v : V) : Prop := if fresh then NewOk K R H0 H d v else Rep K R H d v
theorem NewOk.rep (h : NewOk K R H' H d v) (hd : ∀ a, R a → H' a ≠ none) : Rep K R H d v := by
  cases d with
  | lst ds =>
    obtain ⟨a, vs, rfl, h0, h1, t, z⟩ := h
    exact .lst (.inl ⟨.inl h1, fun z => hd a z h0⟩) (t.mono fun b o e n => ⟨e, fun z => n (.inl z)⟩) z
  | _ => exact h
theorem ValOk.rep {fr : Bool} (h : ValOk K R fr H' H d v) (hd : ∀ a, R a → H' a ≠ none) : Rep K R H d v := by
  unfold ValOk at h
  cases fr
  · exact h
  · exact NewOk.rep h hd
end
end Ev
end -- EvRep

section -- EvJ
set_option Elab.async false
set_option linter.all false
set_option maxRecDepth 100000
/-! EvJ: the judgement: an expression is run as an evaluator's function tells; its combinators. -/
namespace Ev
open PySem L2

theorem PE.mono {X : Cx} {e : Expr} {t t' : TE} (h : PE X e t) (hm : ∀ σ H Q, t' σ H Q → t σ H Q) : PE X e t' := ⟨fun pins s σ H Q I q => h.run pins s σ H Q I (hm σ H Q q)⟩
theorem PT.mono {X : Cx} {e : Expr} {t t' : TT} (h : PT X e t) (hm : ∀ σ H Q, t' σ H Q → t σ H Q) : PT X e t' := ⟨fun pins s σ H Q I q => h.run pins s σ H Q I (hm σ H Q q)⟩
theorem PA.mono {X : Cx} {e : List Expr} {t t' : TA} (h : PA X e t) (hm : ∀ σ H Q, t' σ H Q → t σ H Q) : PA X e t' := ⟨fun pos pins s σ H Q I q => h.run pos pins s σ H Q I (hm σ H Q q)⟩
theorem PS.mono {X : Cx} {e : Stmt} {t t' : TS} (h : PS X e t) (hm : ∀ D σ H, t' D σ H → t D σ H) : PS X e t' := ⟨fun pins s σ H D I q => h.run pins s σ H D I (hm D σ H q)⟩
theorem PSs.mono {X : Cx} {e : List Stmt} {t t' : TS} (h : PSs X e t) (hm : ∀ D σ H, t' D σ H → t D σ H) : PSs X e t' := ⟨fun pins s σ H D I q => h.run pins s σ H D I (hm D σ H q)⟩

theorem Inv.kf {X : Cx} {pins : List (Addr × Obj)} {σ : L2.St} {H : Hp} {s : Shared} (I : L2.Inv X pins σ H s) : KF X.K H := fun a o e => (I.bs a o (I.ok.mod.kin a o e)).2
theorem PE.monoK {X : Cx} {e : Expr} {t t' : TE} (h : PE X e t) (hm : ∀ σ H Q, t' σ H Q → t σ H fun v H' => KF X.K H' → Q v H') : PE X e t' := ⟨fun pins s σ H Q I q =>
  thn (h.run pins s σ H _ I (hm σ H Q q)) fun u s' ⟨v, H', I', r, q'⟩ => ⟨v, H', I', r, q' (Inv.kf I')⟩⟩
/-- how a value comes: made anew, shared, only read -/
inductive Fl where
  | fresh | shr | bor
  deriving DecidableEq
def VOk (K : PySem.W.Frag) (R : Addr → Prop) (fl : Fl) (H0 H : Hp) (d : D) (v : V) : Prop := match fl with
  | .fresh => NewOk K R H0 H d v
  | .shr => Rep K R H d v
  | .bor => BorOk K R H d v
/-- how an exception lies: its class (by number), its place -/
abbrev XR := (Addr → Prop) → Hp → Nat → D → Value → Option Addr → Prop

/-- the state moved on within an expression -/
structure Mv (K : PySem.W.Frag) (R0 : Addr → Prop) (M : List Mode) (σ : St) (q : Bool) (H : Hp) (ρ : Env) (H' : Hp) (ρ' : Env) : Prop where
  env : EnvOk K R0 M σ H' ρ'
  frm : Frm M ρ σ H H'
  live : SameLive ρ ρ'
  quiet : q = true → Same H H' ∧ ρ' = ρ
section
variable {K : PySem.W.Frag} {R0 : Addr → Prop} {M : List Mode} {σ : St} {q q' : Bool} {H H1 H2 : Hp} {ρ ρ1 ρ2 : Env}
theorem Mv.refl (h : EnvOk K R0 M σ H ρ) : Mv K R0 M σ q H ρ H ρ := ⟨h, .refl, .refl, fun _ => ⟨Same.refl _, rfl⟩⟩
theorem Mv.trans (a : Mv K R0 M σ q H ρ H1 ρ1) (b : Mv K R0 M σ q' H1 ρ1 H2 ρ2) : Mv K R0 M σ (q && q') H ρ H2 ρ2 := by
  refine ⟨b.env, a.frm.trans a.live b.frm, a.live.trans b.live, fun h => ?_⟩
  rw [Bool.and_eq_true] at h
  obtain ⟨s1, e1⟩ := a.quiet h.1
  obtain ⟨s2, e2⟩ := b.quiet h.2
  exact ⟨s1.trans s2, e2.trans e1⟩
theorem Mv.weak (a : Mv K R0 M σ q H ρ H1 ρ1) (h : q' = true → q = true) : Mv K R0 M σ q' H ρ H1 ρ1 := ⟨a.env, a.frm, a.live, fun z => a.quiet (h z)⟩
theorem Mv.rr (a : Mv K R0 M σ q H ρ H1 ρ1) : Rr R0 M ρ1 σ = Rr R0 M ρ σ := a.live.rr
theorem Mv.was (a : Mv K R0 M σ q H ρ H1 ρ1) {b : Addr} (h : H1 b = none) : H b = none := by
  cases e : H b with
  | none => rfl
  | some o => exact absurd h (a.frm.there b (by rw [e]; exact fun z => by cases z))
end

section
variable (K : PySem.W.Frag) (R0 : Addr → Prop) (M : List Mode) (xr : XR) (W : WX) (q : Bool)
/-- what is to be shown of an outcome -/
def Rest (fl : Fl) (σ : St) (H : Hp) (ρ : Env) (Q : VK) (o : Out D) : Prop := match o with
  | .ok d ρ' => ∀ v H', Mv K R0 M σ q H ρ H' ρ' → VOk K (Rr R0 M ρ σ) fl H H' d v → Q v H'
  | .exc c p ρ' => ∀ cv dx H', Mv K R0 M σ false H ρ H' ρ' → xr (Rr R0 M ρ σ) H' c p cv dx → W cv dx σ H'
  | .stuck => False
/-- .. of a row of values -/
def RestL (σ : St) (H : Hp) (ρ : Env) (Q : List V → Hp → Prop) (o : Out (List D)) : Prop := match o with
  | .ok ds ρ' => ∀ vs H', Mv K R0 M σ q H ρ H' ρ' → RepL K (Rr R0 M ρ σ) H' ds vs → Q vs H'
  | .exc c p ρ' => ∀ cv dx H', Mv K R0 M σ false H ρ H' ρ' → xr (Rr R0 M ρ σ) H' c p cv dx → W cv dx σ H'
  | .stuck => False
/-- .. of a test -/
def RestB (σ : St) (H : Hp) (ρ : Env) (Q : Bool → Hp → Prop) (o : Out Bool) : Prop := match o with
  | .ok b ρ' => ∀ H', Mv K R0 M σ q H ρ H' ρ' → Q b H'
  | .exc c p ρ' => ∀ cv dx H', Mv K R0 M σ false H ρ H' ρ' → xr (Rr R0 M ρ σ) H' c p cv dx → W cv dx σ H'
  | .stuck => False
def tO (fl : Fl) (g : Env → Out D) : TE := fun σ H Q => ∃ ρ, EnvOk K R0 M σ H ρ ∧ Rest K R0 M xr W q fl σ H ρ Q (g ρ)
def tL (g : Env → Out (List D)) : TA := fun σ H Q => ∃ ρ, EnvOk K R0 M σ H ρ ∧ RestL K R0 M xr W q σ H ρ Q (g ρ)
def tT (g : Env → Out Bool) : TT := fun σ H Q => ∃ ρ, EnvOk K R0 M σ H ρ ∧ RestB K R0 M xr W q σ H ρ Q (g ρ)
end

section
variable {K : PySem.W.Frag} {R R0 : Addr → Prop} {M : List Mode} {xr : XR} {W : WX} {q qa qb qc : Bool} {σ : St} {H H0 H1 H2 H' : Hp} {ρ ρ1 ρ2 : Env} {fl fa fb fc : Fl} {d : D} {v : V} {Q : VK}

theorem NewOk.bor (h : NewOk K R H0 H d v) : BorOk K R H d v := by
  cases d with
  | lst ds =>
    obtain ⟨a, vs, rfl, h0, h1, t, z⟩ := h
    exact ⟨a, vs, rfl, .inl (.inl h1), t.mono fun b o e n => ⟨e, fun z => n (.inl z)⟩, z⟩
  | _ => exact Rep.bor h
theorem VOk.toBor (h : VOk K R fl H0 H d v) : BorOk K R H d v := by
  cases fl with
  | fresh => exact NewOk.bor h
  | shr => exact Rep.bor h
  | bor => exact h
theorem VOk.rep (h : VOk K R fl H0 H d v) (hf : fl ≠ .bor) (hd : ∀ a, R a → H0 a ≠ none) : Rep K R H d v := by
  cases fl with
  | fresh => exact NewOk.rep h hd
  | shr => exact h
  | bor => exact absurd rfl hf
theorem BorOk.same (h : BorOk K R H d v) (s : Same H H') : BorOk K R H' d v := by
  have k : ∀ a o, H a = some o → ¬ R a → H' a = some o ∧ ¬ R a := fun a o e n => ⟨s a o e, n⟩
  cases d with
  | lst ds =>
    obtain ⟨a, vs, rfl, h1, t, z⟩ := h
    exact ⟨a, vs, rfl, s.seq h1, t.mono k, z⟩
  | _ => exact Rep.mono k h
/-- a value read earlier, behind a move: it stays if it is no held list, or if the move is quiet -/
theorem VOk.moved (h : VOk K (Rr R0 M ρ σ) fl H0 H d v) (m : Mv K R0 M σ q H ρ1 H' ρ2) (l : SameLive ρ ρ1) (hd : ∀ a, Rr R0 M ρ σ a → H0 a ≠ none) (hq : fl = .bor → q = true) : BorOk K (Rr R0 M ρ σ) H' d v := by
  by_cases e : fl = .bor
  · subst e
    exact BorOk.same h (m.quiet (hq rfl)).1
  · have r := h.rep e hd
    have f := m.frm
    have : Rep K (Rr R0 M ρ σ) H' d v := by
      rw [← l.rr (R0 := R0) (M := M) (σ := σ)] at r ⊢
      exact r.frm f
    exact this.bor
theorem VOk.movedRep (h : VOk K (Rr R0 M ρ σ) fl H0 H d v) (m : Mv K R0 M σ q H ρ1 H' ρ2) (l : SameLive ρ ρ1) (hd : ∀ a, Rr R0 M ρ σ a → H0 a ≠ none) (hf : fl ≠ .bor) : Rep K (Rr R0 M ρ σ) H' d v := by
  have r := h.rep hf hd
  rw [← l.rr (R0 := R0) (M := M) (σ := σ)] at r ⊢
  exact r.frm m.frm

/-- one part, then what is made of it -/
theorem one {g : Env → Out D} {f : D → Env → Out D} {r : V → Hp → Prop} (env : EnvOk K R0 M σ H ρ) (h : Rest K R0 M xr W q fl σ H ρ Q ((g ρ).bind f))
    (k : ∀ d ρ1 x H1, Mv K R0 M σ qa H ρ H1 ρ1 → VOk K (Rr R0 M ρ σ) fa H H1 d x → Rest K R0 M xr W q fl σ H ρ Q (f d ρ1) → r x H1) : tO K R0 M xr W qa fa g σ H r := by
  refine ⟨ρ, env, ?_⟩
  cases e : g ρ with
  | ok d ρ1 => rw [e] at h; exact fun x H1 m vo => k d ρ1 x H1 m vo h
  | exc c p ρ1 => rw [e] at h; exact h
  | stuck => rw [e] at h; exact h
/-- two parts -/
theorem two {ga gb : Env → Out D} {f : D → D → Env → Out D} {r : V → V → Hp → Prop} (env : EnvOk K R0 M σ H ρ) (h : Rest K R0 M xr W q fl σ H ρ Q ((ga ρ).bind fun x ρ => (gb ρ).bind fun y ρ => f x y ρ)) (hq : fa = .bor → qb = true)
    (k : ∀ da db ρ2 x y H1 H2, Mv K R0 M σ (qa && qb) H ρ H2 ρ2 → BorOk K (Rr R0 M ρ σ) H2 da x → (fa ≠ .bor → Rep K (Rr R0 M ρ σ) H2 da x) → VOk K (Rr R0 M ρ σ) fb H1 H2 db y → (∀ a, Rr R0 M ρ σ a → H1 a ≠ none) →
      Rest K R0 M xr W q fl σ H ρ Q (f da db ρ2) → r x y H2) : tO K R0 M xr W qa fa ga σ H fun x H1 => tO K R0 M xr W qb fb gb σ H1 fun y H2 => r x y H2 := by
  refine one (f := fun x ρ => (gb ρ).bind fun y ρ => f x y ρ) env h fun da ρ1 x H1 m1 v1 h1 => ⟨ρ1, m1.env, ?_⟩
  cases e : gb ρ1 with
  | ok db ρ2 =>
    rw [e] at h1
    intro y H2 m2 v2
    rw [m1.rr] at v2
    exact k da db ρ2 x y H1 H2 (m1.trans m2) (v1.moved m2 m1.live (fun a z => env.domR z) hq) (fun hf => v1.movedRep m2 m1.live (fun a z => env.domR z) hf) v2 (fun a z => m1.frm.there a (env.domR z)) h1
  | exc c p ρ2 =>
    rw [e] at h1
    intro cv dx H2 m2 xx
    rw [m1.rr] at xx
    exact h1 cv dx H2 ((m1.trans m2).weak fun z => by cases z) xx
  | stuck => rw [e] at h1; exact h1
theorem Rest.lift {o : Option D} (h : Rest K R0 M xr W q fl σ H ρ Q (lift o ρ1)) : ∃ d, o = some d ∧ ∀ v H', Mv K R0 M σ q H ρ H' ρ1 → VOk K (Rr R0 M ρ σ) fl H H' d v → Q v H' := by
  cases o with
  | none => exact h.elim
  | some d => exact ⟨d, rfl, h⟩
/-- a new object is laid -/
theorem Mv.new {p : Addr} {o : HO} (m : Mv K R0 M σ q H ρ H1 ρ1) (hp : H1 p = none) (hk : KF K (upd H1 p o)) : Mv K R0 M σ q H ρ (upd H1 p o) ρ1 := by
  have s1 : ∀ a u, H1 a = some u → upd H1 p o a = some u := fun a u e => by
    have : a ≠ p := fun z => by rw [z, hp] at e; cases e
    rw [upd_ne this]; exact e
  refine ⟨?_, ⟨fun a u e n => s1 a u (m.frm.keep a u e n), fun a h => ?_⟩, m.live, fun z => ⟨fun a u e => s1 a u ((m.quiet z).1 a u e), (m.quiet z).2⟩⟩
  · have e := m.env
    have k : ∀ a u, H1 a = some u → ¬ Rr R0 M ρ1 σ a → upd H1 p o a = some u ∧ ¬ Rr R0 M ρ1 σ a := fun a u e n => ⟨s1 a u e, n⟩
    refine ⟨e.len, fun i d hd => ?_, e.dist, e.bor, fun a ha z => ?_, hk⟩
    · obtain ⟨v, hv, so⟩ := e.slot i d hd
      refine ⟨v, hv, ?_⟩
      cases em : md M i <;> rw [em] at so
      · exact Rep.mono k so
      · exact BorOk.same so s1
      · cases d with
        | lst ds => obtain ⟨a, vs, rfl, h1, t, z⟩ := so; exact ⟨a, vs, rfl, s1 _ _ h1, t.mono k, z⟩
        | _ => exact False.elim so
      · cases d with
        | lst ds => obtain ⟨a, vs, rfl, h1, t, z⟩ := so; exact ⟨a, vs, rfl, s1 _ _ h1, t.mono k, z⟩
        | _ => exact False.elim so
    · cases e2 : H1 a with
      | none => exact e.dom a ha e2
      | some u => rw [s1 a u e2] at z; cases z
  · have := m.frm.there a h
    cases e2 : H1 a with
    | none => exact fun _ => this e2
    | some u => rw [s1 a u e2]; exact fun z => by cases z
theorem Rep.new {p : Addr} {o : HO} (r : Rep K R H1 d v) (hp : H1 p = none) : Rep K (fun b => R b ∨ b = p) (upd H1 p o) d v :=
  r.mono fun a u e n => by
    have : a ≠ p := fun z => by rw [z, hp] at e; cases e
    exact ⟨by rw [upd_ne this]; exact e, fun z => z.elim n this⟩
theorem RepL.new {ds : List D} {vs : List V} {p : Addr} {o : HO} (r : RepL K R H1 ds vs) (hp : H1 p = none) : RepL K (fun b => R b ∨ b = p) (upd H1 p o) ds vs :=
  r.mono fun a u e n => by
    have : a ≠ p := fun z => by rw [z, hp] at e; cases e
    exact ⟨by rw [upd_ne this]; exact e, fun z => z.elim n this⟩
theorem RepL.newS {ds : List D} {vs : List V} {p : Addr} {o : HO} (r : RepL K R H1 ds vs) (hp : H1 p = none) : RepL K R (upd H1 p o) ds vs :=
  r.mono fun a u e n => by
    have : a ≠ p := fun z => by rw [z, hp] at e; cases e
    exact ⟨by rw [upd_ne this]; exact e, n⟩
/-- a new list, a new tuple as a value of any flavour -/
theorem VOk.newLst {ds : List D} {vs : List V} {p : Addr} (hfl : fl ≠ .bor) (hp : H1 p = none) (h0 : H0 p = none) (hR : ∀ a, R a → H0 a ≠ none) (r : RepL K R H1 ds vs) (hz : ds.length ≤ LIM) : VOk K R fl H0 (upd H1 p (.lst vs)) (.lst ds) (.ref p) := by
  cases fl with
  | fresh => exact ⟨p, vs, rfl, h0, upd_same, r.new hp, hz⟩
  | shr => exact .lst (.inl ⟨.inl upd_same, fun z => hR p z h0⟩) (r.newS hp) hz
  | bor => exact absurd rfl hfl
theorem VOk.newTup {ds : List D} {vs : List V} {p : Addr} (hp : H1 p = none) (h0 : H0 p = none) (hR : ∀ a, R a → H0 a ≠ none) (r : RepL K R H1 ds vs) (hz : ds.length ≤ LIM) : VOk K R fl H0 (upd H1 p (.tup vs)) (.tup ds) (.ref p) := by
  have q : Rep K R (upd H1 p (.tup vs)) (.tup ds) (.ref p) := .tup (.inl ⟨.inl upd_same, fun z => hR p z h0⟩) (r.newS hp) hz
  cases fl with
  | fresh => exact q
  | shr => exact q
  | bor => exact q
/-- data without lists at its root: every flavour is one -/
theorem VOk.of_rep (r : Rep K R H d v) (h : fl = .fresh → isMut d = false) : VOk K R fl H0 H d v := by
  cases fl with
  | fresh =>
    have := h rfl
    cases d with
    | lst ds => cases this
    | _ => exact r
  | shr => exact r
  | bor => exact r.bor
theorem VOk.flat (r : Rep K R H d v) (h : isMut d = false) : VOk K R fl H0 H d v := VOk.of_rep r fun _ => h
end
end Ev
end -- EvJ

section -- EvOp
set_option Elab.async false
set_option linter.all false
set_option maxRecDepth 100000
set_option maxHeartbeats 1000000
/-! EvOp: the operators by plain data. -/
namespace Ev
open PySem PySem.Spec PyProof.Rows L2

theorem lim_eq : sizeLine = LIM := by rw [sizeLine_eq]
theorem StrB.append {a b : List Nat} (ha : StrB a) (hb : StrB b) (h : a.length + b.length ≤ LIM) : StrB (a ++ b) :=
  ⟨by rw [List.length_append]; exact h, fun c hc => (List.mem_append.mp hc).elim (ha.2 c) (hb.2 c)⟩
theorem StrB.one {s : List Nat} (h : StrB s) {c : Nat} (hc : c ∈ s) : StrB [c] := ⟨(by decide : 1 ≤ LIM), fun d hd => by rw [List.mem_singleton.mp hd]; exact h.2 c hc⟩
theorem StrB.cut {s : List Nat} (h : StrB s) (l k : Nat) : StrB (cutL s l k) := by
  refine ⟨?_, fun c hc => h.2 c (List.mem_of_mem_drop (List.mem_of_mem_take hc))⟩
  have := h.1
  unfold cutL
  rw [List.length_take, List.length_drop]
  omega
theorem mkS_len (s : List Nat) : (mkS s).length = s.length := rfl
theorem mkS_cps (s : List Nat) : (mkS s).cps.toList = s := rfl
theorem mkS_append (a b : List Nat) : mkS a ++ mkS b = mkS (a ++ b) := by
  show Str.append _ _ = _
  unfold Str.append
  simp
theorem mkS_inj {a b : List Nat} (h : mkS a = mkS b) : a = b := by
  have := congrArg (fun x : Str => x.cps.toList) h
  simpa using this

/-- an operator's result -/
inductive OpRes (K : PySem.W.Frag) (R : Addr → Prop) (fr : Bool) (H : Hp) : D → V → Hp → Prop
  | old {d : D} {z : V} : Rep K R H d z → (fr = true → isMut d = false) → OpRes K R fr H d z H
  | lst {ds : List D} {vs : List V} {p : Addr} : H p = none → RepL K R H ds vs → ds.length ≤ LIM → OpRes K R fr H (.lst ds) (.ref p) (upd H p (.lst vs))
  | tup {ds : List D} {vs : List V} {p : Addr} : H p = none → RepL K R H ds vs → ds.length ≤ LIM → OpRes K R fr H (.tup ds) (.ref p) (upd H p (.tup vs))
/-- a rule by data: two operands that are only read -/
def rD (K : PySem.W.Frag) (op : D → D → Option D) (fr : Bool) : R2 := fun x y H Q => ∃ (R : Addr → Prop) (da db d : D), BorOk K R H da x ∧ BorOk K R H db y ∧ op da db = some d ∧ ∀ z H', OpRes K R fr H d z H' → Q z H'
/-- .. a row of them -/
def rDs (K : PySem.W.Frag) (op : List D → Option D) (fr : Bool) : List V → Hp → VK → Prop := fun xs H Q => ∃ (R : Addr → Prop) (ds : List D) (d : D), Paired (fun d x => BorOk K R H d x) ds xs ∧ op ds = some d ∧ ∀ z H', OpRes K R fr H d z H' → Q z H'
section
variable {X : Cx} {K : PySem.W.Frag} {R : Addr → Prop} {fr : Bool} {H : Hp} {x y : V} {a b : Int} {s : List Nat} {ds es : List D}
theorem BorOk.int (h : BorOk K R H (.int a) x) : x = .int a := by
  have h : Rep K R H (.int a) x := h
  cases h; rfl
theorem BorOk.bl {b : Bool} (h : BorOk K R H (.bl b) x) : x = .bl b := by
  have h : Rep K R H (.bl b) x := h
  cases h; rfl
theorem BorOk.non (h : BorOk K R H .non x) : x = .non := by
  have h : Rep K R H .non x := h
  cases h; rfl
theorem BorOk.str (h : BorOk K R H (.str s) x) : x = .str (mkS s) ∧ StrB s := by
  have h : Rep K R H (.str s) x := h
  cases h with
  | str _ z => exact ⟨rfl, z⟩
theorem BorOk.tup (h : BorOk K R H (.tup ds) x) : ∃ p vs, x = .ref p ∧ SqT K H p vs ∧ RepL K R H ds vs ∧ ds.length ≤ LIM := by
  have h : Rep K R H (.tup ds) x := h
  cases h with
  | tup g t z => exact ⟨_, _, rfl, g.sq, t, z⟩
theorem BorOk.lst (h : BorOk K R H (.lst ds) x) : ∃ p vs, x = .ref p ∧ SqL K H p vs ∧ RepL K R H ds vs ∧ ds.length ≤ LIM := h
theorem BorOk.tupRep (h : BorOk K R H (.tup ds) x) : Rep K R H (.tup ds) x := h

/-- list + list, of any lists that are read -/
theorem op_catL : OpR X (binaryOp .Add) (fun x y H Q => ∃ l b xs zs, x = .ref l ∧ y = .ref b ∧ SqL X.K H l xs ∧ SqL X.K H b zs ∧ xs.length + zs.length ≤ sizeLine ∧ ∀ p, H p = none → Q (.ref p) (upd H p (.lst (xs ++ zs)))) := by
  intro pins s σ H x y v u Q I rx ry h
  obtain ⟨l, b, xs, zs, rfl, rfl, hH, hB, hz, q⟩ := h
  cases rx
  cases ry
  obtain ⟨its, r, ⟨⟨cls, dd, data, sl⟩, n, ho, hc, hd0, hd⟩, _⟩ := I.list hH
  obtain ⟨its2, r2, ⟨⟨cls2, dd2, data2, sl2⟩, n2, ho2, hc2, hd02, hd2⟩, _⟩ := I.list hB
  simp only at hc hd hc2 hd2
  subst hc hd hc2 hd2
  have e : its.toArray ++ its2.toArray = (its ++ its2).toArray := by simp
  refine concat_meets ⟨_, ho, rfl⟩ ⟨_, ho2, rfl⟩ noFill_list_add seq_list_add PySem.F.slot_list_add PySem.F.entry_list_add (PySem.F.args_list_add_2 _ _) (list_addW l b its.toArray its2.toArray n n2 dd dd2 sl sl2 (by rw [List.size_toArray, List.size_toArray, ← r.length, ← r2.length]; exact hz)) ⟨ho, ho2, ?_⟩
  rw [e]
  exact ⟨.ref _, _, I.lnew (t' := s.toks) (r.append r2) (by rw [List.length_append]; exact hz), rfl, q _ I.fresh⟩

theorem opD_add : OpR X (binaryOp .Add) (rD X.K (opBin .add) true) := by
  intro pins s σ H x y v u Q I rx ry ⟨R, da, db, d, ha, hb, e, q⟩
  unfold opBin at e
  split at e
  · cases e; cases ha.int; cases hb.int
    exact op_add pins s σ H _ _ v u Q I rx ry ⟨_, _, rfl, rfl, q _ _ (.old (.int _) fun _ => rfl)⟩
  · split at e
    · rename_i hz
      cases e
      obtain ⟨rfl, b1⟩ := ha.str
      obtain ⟨rfl, b2⟩ := hb.str
      refine op_add_str pins s σ H _ _ v u Q I rx ry ⟨_, _, rfl, rfl, by rw [mkS_len, mkS_len, lim_eq]; exact hz, ?_⟩
      rw [mkS_append]
      exact q _ _ (.old (.str _ (b1.append b2 hz)) fun _ => rfl)
    · cases e
  · split at e
    · rename_i hz
      cases e
      have ra := ha.tupRep
      have rb := hb.tupRep
      obtain ⟨p1, vs1, rfl, h1, t1, _⟩ := ha.tup
      obtain ⟨p2, vs2, rfl, h2, t2, _⟩ := hb.tup
      refine op_catA pins s σ H _ _ v u Q I rx ry ⟨p1, p2, vs1, vs2, rfl, rfl, h1, h2, by rw [← t1.length, ← t2.length, lim_eq]; exact hz, fun e => ?_, fun _ e => ?_, fun _ _ p hp => ?_⟩
      · subst e
        cases t1
        exact q _ _ (.old rb fun _ => rfl)
      · subst e
        cases t2
        rw [List.append_nil] at q
        exact q _ _ (.old ra fun _ => rfl)
      · exact q _ _ (.tup hp (t1.append t2) (by rw [List.length_append]; exact hz))
    · cases e
  · split at e
    · rename_i hz
      cases e
      obtain ⟨p1, vs1, rfl, h1, t1, _⟩ := ha.lst
      obtain ⟨p2, vs2, rfl, h2, t2, _⟩ := hb.lst
      exact op_catL pins s σ H _ _ v u Q I rx ry ⟨p1, p2, vs1, vs2, rfl, rfl, h1, h2, by rw [← t1.length, ← t2.length, lim_eq]; exact hz, fun p hp => q _ _ (.lst hp (t1.append t2) (by rw [List.length_append]; exact hz))⟩
    · cases e
  all_goals first | (cases e; done) | (rename_i h; cases h; done) | skip
theorem opD_sub : OpR X (binaryOp .Sub) (rD X.K (opBin .sub) true) := by
  intro pins s σ H x y v u Q I rx ry ⟨R, da, db, d, ha, hb, e, q⟩
  unfold opBin at e
  split at e <;> first | (rename_i h; cases h; done) | skip
  all_goals first | (cases e; done) | skip
  cases e; cases ha.int; cases hb.int
  exact op_sub pins s σ H _ _ v u Q I rx ry ⟨_, _, rfl, rfl, q _ _ (.old (.int _) fun _ => rfl)⟩
end
end Ev
end -- EvOp

section -- EvOp2
set_option Elab.async false
set_option linter.all false
set_option maxRecDepth 100000
set_option maxHeartbeats 1000000
/-! EvOp2: further operators by plain data. -/
namespace Ev
open PySem PySem.Spec PyProof.Rows L2

/-! ### list * int -/
theorem list_mulW (l : Addr) (items : Array Value) (n : Nat) (dd : Option Addr) (sl : Array (Option Value)) (x : Int) (u : Tok) (hc0 : ¬(!Builtin.List.listFitsIndex x) = true) (hc1 : ¬items.size * x.toNat > (2 ^ 63 - 1) / 8) (hc2 : ¬Builtin.List.listTooLong (items.size * x.toNat) = true) :
    Meets (Builtin.«list.__mul__» ⟨[.ref l, .int x u], []⟩) (fun _ R s => s.heap.get? l = some { cls := .type "list", dict := dd, data := .seq items n, slots := sl } ∧ R (.ok (.ret (Value.ref s.heap.objs.size))) { s with heap := s.heap.push { cls := Value.type "list", data := Data.seq (List.foldl (fun x1 x2 => x1 ++ x2) #[] (List.replicate (if items.isEmpty = true then 0 else x.toNat) items)) }, toks := s.toks }) :=
  .of_wp fun prog w A R s h => by
    obtain ⟨hp, g, d, tk, os⟩ := s; obtain ⟨hl, h⟩ := h
    have hsz := AutoListH.joined_fits hc2
    have f1 := AutoSeq1.idx_int
    wp_walk using AutoSeq1.wpAny_loadPart' hl; refine wpAny_ite_false (decide_eq_false (Nat.not_lt.mpr hsz)) ?_; wp_walk using AutoSeq1.wpAny_loadPart' hl; exact ⟨_, rfl, h⟩
theorem int_rmul_listW (a : Int) (t : Tok) (l : Addr) (items : Array Value) (n : Nat) (dd : Option Addr) (sl : Array (Option Value)) :
    Meets (Builtin.«int.__rmul__» ⟨[.int a t, .ref l], []⟩) (fun _ R s => s.heap.get? l = some { cls := .type "list", dict := dd, data := .seq items n, slots := sl } ∧ R (.ok (.ret Value.notImplemented)) s) :=
  .of_wp fun prog w A R s h => by obtain ⟨hp, g, d, tk, os⟩ := s; obtain ⟨hl, h⟩ := h; wp_walk using AutoSeq1.wpAny_loadPart' hl; exact ⟨_, rfl, h⟩
section
variable {X : Cx}
theorem op_repL : OpR X (binaryOp .Mult) (fun x y H Q => ∃ l k xs, x = .ref l ∧ y = .int k ∧ SqL X.K H l xs ∧ -(2 ^ 63) ≤ k ∧ k < 2 ^ 63 ∧ xs.length * k.toNat ≤ sizeLine ∧ ∀ p, H p = none → Q (.ref p) (upd H p (.lst (List.replicate k.toNat xs).flatten))) := by
  intro pins s σ H x y v u Q I rx ry h
  obtain ⟨l, k, xs, rfl, rfl, hH, h1, h2, hz, q⟩ := h
  cases rx
  obtain ⟨t, rfl⟩ := ry
  obtain ⟨its, r, ⟨⟨cls, dd, data, sl⟩, n, ho, hc, hd0, hd⟩, _⟩ := I.list hH
  simp only at hc hd
  subst hc hd
  have hl := r.length
  have hlen : its.toArray.size * k.toNat ≤ sizeLine := by rw [List.size_toArray, ← hl]; exact hz
  have hcap : ¬ its.toArray.size * k.toNat > (2 ^ 63 - 1) / 8 := by
    have : (sizeLine : Nat) ≤ (2 ^ 63 - 1) / 8 := by decide
    omega
  have hfit : ¬ (!Builtin.List.listFitsIndex k) = true := by
    rw [fitsIndex_both h1 h2]
    exact Bool.false_ne_true
  have hlong : ¬ Builtin.List.listTooLong (its.toArray.size * k.toNat) = true := by
    rw [notLongL hlen]
    exact Bool.false_ne_true
  have hnew : List.foldl (fun x1 x2 => x1 ++ x2) #[] (List.replicate (if its.toArray.isEmpty = true then 0 else k.toNat) its.toArray) = (List.replicate k.toNat its).flatten.toArray := by
    have f0 : ∀ m : Nat, List.foldl (fun x1 x2 => x1 ++ x2) #[] (List.replicate m its.toArray) = (List.replicate m its).flatten.toArray := fun m => by
      have := foldl_rep its m []
      rw [List.nil_append] at this
      exact this
    rw [f0]
    cases its with
    | nil => simp
    | cons a r' => rw [if_neg (by simp)]
  refine wpAny_binaryOp_repeat_ref (T := "list") (U := "int") (by decide) ⟨_, ho, rfl⟩ (fun s' => typeIs_int s' k t) noFill_list_mul F.fills_int_mul F.slot_int_rmul repeat_list F.slot_int_index.lookup
    (call_meets F.slot_int_rmul (typeIs_int s k t) F.entry_int_rmul (F.args_int_rmul_2 _ _) (int_rmul_listW k t l its.toArray n dd sl)
      ⟨ho, rfl, ⟨_, ho, rfl⟩, call_meets F.slot_list_mul ⟨_, ho, rfl⟩ F.entry_list_mul (F.args_list_mul_2 _ _) (list_mulW l its.toArray n dd sl k t hfit hcap hlong) ⟨ho, ?_⟩⟩)
  rw [hnew]
  exact ⟨.ref _, _, I.lnew (t' := s.toks) (r.rep k.toNat) (by rw [PyProof.Rows.lm_len_rep_flat, Nat.mul_comm]; exact hz), rfl, q _ I.fresh⟩

theorem len_repl {α : Type} (xs : List α) (k : Nat) : (List.replicate k xs).flatten.length = xs.length * k := by
  rw [List.length_flatten, List.map_replicate, List.sum_replicate_nat, Nat.mul_comm]
theorem opD_mul : OpR X (binaryOp .Mult) (rD X.K (opBin .mul) true) := by
  intro pins s σ H x y v u Q I rx ry ⟨R, da, db, d, ha, hb, e, q⟩
  unfold opBin at e
  split at e <;> first | (rename_i h; cases h; done) | skip
  all_goals first | (cases e; done) | skip
  · split at e
    · rename_i hz
      cases e; cases ha.int; cases hb.int
      exact op_mul pins s σ H _ _ v u Q I rx ry ⟨_, _, rfl, rfl, by unfold CMul; unfold B64 at hz; omega, q _ _ (.old (.int _) fun _ => rfl)⟩
    · cases e
  · split at e
    · rename_i hz
      cases e
      obtain ⟨p1, vs1, rfl, h1, t1, _⟩ := ha.lst
      cases hb.int
      have hl := t1.length
      exact op_repL pins s σ H _ _ v u Q I rx ry ⟨p1, _, vs1, rfl, rfl, h1, by omega, by omega, by rw [← hl, lim_eq]; exact hz.2.2, fun p hp => q _ _ (.lst hp (t1.rep _) (by rw [len_repl]; exact hz.2.2))⟩
    · cases e
  · split at e
    · rename_i hz
      cases e
      obtain ⟨p1, vs1, rfl, h1, t1, _⟩ := ha.tup
      cases hb.int
      have hl := t1.length
      refine op_repT pins s σ H _ _ v u Q I rx ry ⟨p1, _, vs1, rfl, rfl, h1, fun z => ?_, hz.2.1, hz.2.2.1, by rw [← hl]; exact hz.2.2.2, fun p hp => q _ _ (.tup hp (t1.rep _) ?_)⟩
      · subst z
        cases t1
        cases hz.1
      · rw [len_repl]
        refine Nat.le_trans (Nat.mul_le_mul hz.2.2.2 (show _ ≤ 1000 by omega)) (by decide)
    · cases e
theorem opD_fdiv : OpR X (binaryOp .FloorDiv) (rD X.K (opBin .fdiv) true) := by
  intro pins s σ H x y v u Q I rx ry ⟨R, da, db, d, ha, hb, e, q⟩
  unfold opBin at e
  split at e <;> first | (rename_i h; cases h; done) | skip
  all_goals first | (cases e; done) | skip
  split at e
  · rename_i hz
    cases e; cases ha.int; cases hb.int
    exact op_fdivN pins s σ H _ _ v u Q I rx ry ⟨_, _, rfl, rfl, hz, q _ _ (.old (.int _) fun _ => rfl)⟩
  · cases e
theorem opD_mod : OpR X (binaryOp .Mod) (rD X.K (opBin .mod) true) := by
  intro pins s σ H x y v u Q I rx ry ⟨R, da, db, d, ha, hb, e, q⟩
  unfold opBin at e
  split at e <;> first | (rename_i h; cases h; done) | skip
  all_goals first | (cases e; done) | skip
  split at e
  · rename_i hz
    cases e; cases ha.int; cases hb.int
    exact op_modN pins s σ H _ _ v u Q I rx ry ⟨_, _, rfl, rfl, hz, q _ _ (.old (.int _) fun _ => rfl)⟩
  · cases e
theorem opD_pow : OpR X (binaryOp .Pow) (rD X.K (opBin .pow) true) := by
  intro pins s σ H x y v u Q I rx ry ⟨R, da, db, d, ha, hb, e, q⟩
  unfold opBin at e
  split at e <;> first | (rename_i h; cases h; done) | skip
  all_goals first | (cases e; done) | skip
  split at e
  · rename_i hz
    cases e; cases ha.int; cases hb.int
    exact op_pow pins s σ H _ _ v u Q I rx ry ⟨_, _, rfl, rfl, hz, q _ _ (.old (.int _) fun _ => rfl)⟩
  · cases e
end

/-! ### == -/
mutual
def toPy : D → PyData
  | .non => .none
  | .bl b => .bool b
  | .int i => .int i
  | .str s => .str (mkS s)
  | .tup xs => .tuple (toPyL xs)
  | .lst xs => .list (toPyL xs)
  | _ => .none
def toPyL : List D → List PyData
  | [] => []
  | x :: xs => toPy x :: toPyL xs
end
mutual
theorem toPy_depth : ∀ d : D, plainD d = true → (toPy d).depth = depthD d
  | .non, _ => by simp [toPy, PyData.depth, depthD]
  | .bl b, _ => by simp [toPy, PyData.depth, depthD]
  | .int i, _ => by simp [toPy, PyData.depth, depthD]
  | .str s, _ => by simp [toPy, PyData.depth, depthD]
  | .tup xs, h => by
    have := toPyL_depth xs (by simpa [plainD] using h)
    simp [toPy, PyData.depth, depthD, this]
  | .lst xs, h => by
    have := toPyL_depth xs (by simpa [plainD] using h)
    simp [toPy, PyData.depth, depthD, this]
  | .dct _ _, h => by simp [plainD] at h
  | .obj _ _, h => by simp [plainD] at h
  | .clo _ _, h => by simp [plainD] at h
theorem toPyL_depth : ∀ ds : List D, plainL ds = true → PyData.depthAll (toPyL ds) = depthL ds
  | [], _ => by simp [toPyL, PyData.depthAll, depthL]
  | x :: xs, h => by
    simp only [plainL, Bool.and_eq_true] at h
    have h1 := toPy_depth x h.1
    have h2 := toPyL_depth xs h.2
    simp [toPyL, PyData.depthAll, depthL, h1, h2]
end
theorem beqS (a b : List Nat) : (mkS a == mkS b) = (a == b) := by
  rw [Bool.eq_iff_iff, beq_iff_eq, beq_iff_eq]
  exact ⟨mkS_inj, fun e => by rw [e]⟩
mutual
theorem toPy_eq : ∀ a b : D, plainD a = true → plainD b = true → PyData.eqv (toPy a) (toPy b) = eqD a b
  | .tup xs, .tup ys, ha, hb => by
    have := toPyL_eq xs ys (by simpa [plainD] using ha) (by simpa [plainD] using hb)
    simp [toPy, PyData.eqv, eqD, this]
  | .lst xs, .lst ys, ha, hb => by
    have := toPyL_eq xs ys (by simpa [plainD] using ha) (by simpa [plainD] using hb)
    simp [toPy, PyData.eqv, eqD, this]
  | .str a, .str b, _, _ => by simp only [toPy, PyData.eqv, eqD, beqS]
  | .dct _ _, _, h, _ => by simp [plainD] at h
  | .obj _ _, _, h, _ => by simp [plainD] at h
  | .clo _ _, _, h, _ => by simp [plainD] at h
  | _, .dct _ _, _, h => by simp [plainD] at h
  | _, .obj _ _, _, h => by simp [plainD] at h
  | _, .clo _ _, _, h => by simp [plainD] at h
  | .non, .non, _, _ => by simp [toPy, PyData.eqv, eqD]
  | .non, .bl _, _, _ => by simp [toPy, PyData.eqv, eqD]
  | .non, .int _, _, _ => by simp [toPy, PyData.eqv, eqD]
  | .non, .str _, _, _ => by simp [toPy, PyData.eqv, eqD]
  | .non, .tup _, _, _ => by simp [toPy, PyData.eqv, eqD]
  | .non, .lst _, _, _ => by simp [toPy, PyData.eqv, eqD]
  | .bl _, .non, _, _ => by simp [toPy, PyData.eqv, eqD]
  | .bl _, .bl _, _, _ => by simp [toPy, PyData.eqv, eqD]
  | .bl _, .int _, _, _ => by simp [toPy, PyData.eqv, eqD]
  | .bl _, .str _, _, _ => by simp [toPy, PyData.eqv, eqD]
  | .bl _, .tup _, _, _ => by simp [toPy, PyData.eqv, eqD]
  | .bl _, .lst _, _, _ => by simp [toPy, PyData.eqv, eqD]
  | .int _, .non, _, _ => by simp [toPy, PyData.eqv, eqD]
  | .int _, .bl _, _, _ => by simp [toPy, PyData.eqv, eqD]
  | .int _, .int _, _, _ => by simp [toPy, PyData.eqv, eqD]
  | .int _, .str _, _, _ => by simp [toPy, PyData.eqv, eqD]
  | .int _, .tup _, _, _ => by simp [toPy, PyData.eqv, eqD]
  | .int _, .lst _, _, _ => by simp [toPy, PyData.eqv, eqD]
  | .str _, .non, _, _ => by simp [toPy, PyData.eqv, eqD]
  | .str _, .bl _, _, _ => by simp [toPy, PyData.eqv, eqD]
  | .str _, .int _, _, _ => by simp [toPy, PyData.eqv, eqD]
  | .str _, .tup _, _, _ => by simp [toPy, PyData.eqv, eqD]
  | .str _, .lst _, _, _ => by simp [toPy, PyData.eqv, eqD]
  | .tup _, .non, _, _ => by simp [toPy, PyData.eqv, eqD]
  | .tup _, .bl _, _, _ => by simp [toPy, PyData.eqv, eqD]
  | .tup _, .int _, _, _ => by simp [toPy, PyData.eqv, eqD]
  | .tup _, .str _, _, _ => by simp [toPy, PyData.eqv, eqD]
  | .tup _, .lst _, _, _ => by simp [toPy, PyData.eqv, eqD]
  | .lst _, .non, _, _ => by simp [toPy, PyData.eqv, eqD]
  | .lst _, .bl _, _, _ => by simp [toPy, PyData.eqv, eqD]
  | .lst _, .int _, _, _ => by simp [toPy, PyData.eqv, eqD]
  | .lst _, .str _, _, _ => by simp [toPy, PyData.eqv, eqD]
  | .lst _, .tup _, _, _ => by simp [toPy, PyData.eqv, eqD]
theorem toPyL_eq : ∀ a b : List D, plainL a = true → plainL b = true → PyData.eqvAll (toPyL a) (toPyL b) = eqL a b
  | [], [], _, _ => by simp [toPyL, PyData.eqvAll, eqL]
  | [], _ :: _, _, _ => by simp [toPyL, PyData.eqvAll, eqL]
  | _ :: _, [], _, _ => by simp [toPyL, PyData.eqvAll, eqL]
  | x :: xs, y :: ys, ha, hb => by
    simp only [plainL, Bool.and_eq_true] at ha hb
    have h1 := toPy_eq x y ha.1 hb.1
    have h2 := toPyL_eq xs ys ha.2 hb.2
    simp [toPyL, PyData.eqvAll, eqL, h1, h2]
end
section
variable {K : PySem.W.Frag} {R : Addr → Prop} {H : Hp}
theorem strOk_of {s : List Nat} (h : StrB s) : PySem.PyData.strOk (mkS s) = true := by
  unfold PySem.PyData.strOk
  rw [Array.all_eq_true']
  intro x hx
  have : x ∈ s := by simpa using hx
  exact decide_eq_true (h.2 x this)
mutual
theorem Rep.dp : ∀ {d : D} {v : V}, Rep K R H d v → plainD d = true → Dp K H v (toPy d) ∧ (toPy d).canLay0 = true
  | _, _, .non, _ => ⟨by rw [toPy]; exact .non, by simp [toPy, PyData.canLay0]⟩
  | _, _, .bl b, _ => ⟨by rw [toPy]; exact .bl b, by simp [toPy, PyData.canLay0]⟩
  | _, _, .int i, _ => ⟨by rw [toPy]; exact .int i, by simp [toPy, PyData.canLay0]⟩
  | _, _, .str s z, _ => ⟨by rw [toPy]; exact .str _, by rw [toPy, PyData.canLay0]; exact strOk_of z⟩
  | _, _, .tup h t _, hp => by
    obtain ⟨a, b⟩ := RepL.dp t (by simpa [plainD] using hp)
    exact ⟨by rw [toPy]; exact .tup h.sq a, by rw [toPy, PyData.canLay0]; exact b⟩
  | _, _, .lst h t _, hp => by
    obtain ⟨a, b⟩ := RepL.dp t (by simpa [plainD] using hp)
    exact ⟨by rw [toPy]; exact .lst h.sq a, by rw [toPy, PyData.canLay0]; exact b⟩
theorem RepL.dp : ∀ {ds : List D} {vs : List V}, RepL K R H ds vs → plainL ds = true → DpAll K H vs (toPyL ds) ∧ PyData.canLayAll0 (toPyL ds) = true
  | _, _, .nil, _ => ⟨by rw [toPyL]; exact .nil, by simp [toPyL, PyData.canLayAll0]⟩
  | _, _, .cons r t, hp => by
    simp only [plainL, Bool.and_eq_true] at hp
    obtain ⟨a, b⟩ := Rep.dp r hp.1
    obtain ⟨c, d⟩ := RepL.dp t hp.2
    exact ⟨by rw [toPyL]; exact .cons a c, by rw [toPyL, PyData.canLayAll0, b, d]; rfl⟩
end
theorem BorOk.dp {d : D} {v : V} (h : BorOk K R H d v) (hp : plainD d = true) : Dp K H v (toPy d) ∧ (toPy d).canLay0 = true := by
  cases d with
  | lst ds =>
    obtain ⟨a, vs, rfl, h1, t, _⟩ := h
    obtain ⟨c, d⟩ := RepL.dp t (by simpa [plainD] using hp)
    exact ⟨by rw [toPy]; exact .lst h1 c, by rw [toPy, PyData.canLay0]; exact d⟩
  | _ => exact Rep.dp h hp
theorem okEq_of {a b : D} (h : okEq a b = true) : plainD a = true ∧ plainD b = true ∧ min (depthD a) (depthD b) ≤ 100 := by
  unfold okEq at h
  rw [Bool.and_eq_true, Bool.and_eq_true, decide_eq_true_eq] at h
  exact ⟨h.1.1, h.1.2, h.2⟩
theorem opEq_some {a b : D} {c : Bool} (h : opEq a b = some c) : okEq a b = true ∧ c = eqD a b := by
  unfold opEq at h
  split at h
  · rename_i e
    cases h
    exact ⟨e, rfl⟩
  · cases h
end
section
variable {X : Cx}
theorem opD_eq (hu : X.A.units + 200 < cLine) : OpR X (compareOp .Eq) (rD X.K (fun a b => (opCmp .eq a b).map .bl) true) := by
  intro pins s σ H x y v u Q I rx ry ⟨R, da, db, d, ha, hb, e, q⟩
  obtain ⟨c, e1, rfl⟩ := Option.map_eq_some_iff.mp e
  obtain ⟨ok, rfl⟩ := opEq_some e1
  obtain ⟨p1, p2, dz⟩ := okEq_of ok
  obtain ⟨d1, l1⟩ := ha.dp p1
  obtain ⟨d2, l2⟩ := hb.dp p2
  obtain ⟨as, r1⟩ := Dp.reads I _ x v d1 rx
  obtain ⟨bs, r2⟩ := Dp.reads I _ y u d2 ry
  refine SeqAt.compareEq_reads r1 r2 l1 l2 (by rw [toPy_depth _ p1, toPy_depth _ p2]; omega) ?_
  rw [toPy_eq _ _ p1 p2]
  exact ⟨.bl _, H, I, rfl, q _ _ (.old (.bl _) fun _ => rfl)⟩
theorem opD_ne (hu : X.A.units + 200 < cLine) : OpR X (compareOp .NotEq) (rD X.K (fun a b => (opCmp .ne a b).map .bl) true) := by
  intro pins s σ H x y v u Q I rx ry ⟨R, da, db, d, ha, hb, e, q⟩
  obtain ⟨c, e1, rfl⟩ := Option.map_eq_some_iff.mp e
  obtain ⟨c', e2, rfl⟩ := Option.map_eq_some_iff.mp (show (opEq da db).map (!·) = some c from e1)
  obtain ⟨ok, rfl⟩ := opEq_some e2
  obtain ⟨p1, p2, dz⟩ := okEq_of ok
  obtain ⟨d1, l1⟩ := ha.dp p1
  obtain ⟨d2, l2⟩ := hb.dp p2
  obtain ⟨as, r1⟩ := Dp.reads I _ x v d1 rx
  obtain ⟨bs, r2⟩ := Dp.reads I _ y u d2 ry
  refine SeqAt.compareNe_reads r1 r2 l1 l2 (by rw [toPy_depth _ p1, toPy_depth _ p2]; omega) ?_
  rw [toPy_eq _ _ p1 p2]
  exact ⟨.bl _, H, I, rfl, q _ _ (.old (.bl _) fun _ => rfl)⟩
end
end Ev
end -- EvOp2

section -- EvOp3
set_option Elab.async false
set_option linter.all false
set_option maxRecDepth 100000
set_option maxHeartbeats 1000000
/-! EvOp3: order, is, in, subscripts, slices, truth. -/
namespace Ev
open PySem PySem.Spec PyProof.Rows L2

theorem ltS_eq : ∀ a b : List Nat, ltS a b = decide (a < b)
  | [], [] => by simp [ltS]
  | [], b :: t => by simp [ltS]
  | a :: r, [] => by simp [ltS]
  | a :: r, b :: t => by
    rw [PySem.StrLaws.lt_cons_cons, ltS, ltS_eq r t]
    by_cases h : a < b
    · simp [h]
    · rw [if_neg h]
      by_cases h2 : b < a
      · rw [if_pos h2]
        have : a ≠ b := by omega
        simp [h, this]
      · have : a = b := by omega
        simp [this]
theorem lexAt_eq : ∀ (xs ys : List D) (i : Nat) (e r : Nat → Bool), (∀ j x y, xs[j]? = some x → ys[j]? = some y → e (i + j) = eqD x y ∧ r (i + j) = ltD x y) →
    Ob.lexAt e r (decide (xs.length < ys.length)) i (min xs.length ys.length) = ltL xs ys
  | [], [], i, e, r, _ => by simp [ltL, Ob.lexAt]
  | [], _ :: _, i, e, r, _ => by simp [ltL, Ob.lexAt]
  | _ :: _, [], i, e, r, _ => by simp [ltL, Ob.lexAt]
  | x :: xs, y :: ys, i, e, r, h => by
    have h0 := h 0 x y rfl rfl
    rw [Nat.add_zero] at h0
    have ih := lexAt_eq xs ys (i + 1) e r fun j x' y' hx hy => by
      have := h (j + 1) x' y' (by simpa using hx) (by simpa using hy)
      rw [show i + 1 + j = i + (j + 1) by omega]
      exact this
    have hm : min (x :: xs).length (y :: ys).length = min xs.length ys.length + 1 := by simp only [List.length_cons]; omega
    rw [hm, Ob.lexAt_succ, h0.1, h0.2, ltL]
    have hd : decide ((x :: xs).length < (y :: ys).length) = decide (xs.length < ys.length) := by
      rw [decide_eq_decide]; simp only [List.length_cons]; omega
    rw [hd, ih]

section
variable {X : Cx} {pins : List (Addr × Obj)} {σ : L2.St} {H : Hp} {s : Shared} {R : Addr → Prop}
theorem depth_mem : ∀ {xs : List D} {j : Nat} {x : D}, xs[j]? = some x → depthD x ≤ depthL xs
  | [], _, _, h => by simp at h
  | y :: ys, 0, x, h => by simp at h; subst h; simp only [depthL]; omega
  | y :: ys, j + 1, x, h => by
    have := depth_mem (xs := ys) (j := j) (x := x) (by simpa using h)
    simp only [depthL]; omega
theorem Rep.eqAt (I : Inv X pins σ H s) {a b : D} {x y : V} {v u : Value} {A : Around} (ra : Rep X.K R H a x) (rb : Rep X.K R H b y) (rx : RelV x v) (ry : RelV y u) (ok : okEq a b = true) (hu : A.units + min (depthD a) (depthD b) < cLine) : SeqAt.EqAt A s v u (eqD a b) := by
  obtain ⟨p1, p2, _⟩ := okEq_of ok
  obtain ⟨d1, l1⟩ := ra.dp p1
  obtain ⟨d2, l2⟩ := rb.dp p2
  obtain ⟨as, r1⟩ := Dp.reads I _ x v d1 rx
  obtain ⟨bs, r2⟩ := Dp.reads I _ y u d2 ry
  have := SeqAt.eqAt_reads _ _ A s v u as bs r1 r2 l1 l2 (by rw [toPy_depth _ p1, toPy_depth _ p2]; exact hu)
  rw [toPy_eq _ _ p1 p2] at this
  exact this
theorem okLtL_at : ∀ {xs ys : List D} {j : Nat} {x y : D}, okLtL xs ys = true → xs[j]? = some x → ys[j]? = some y → okEq x y = true ∧ (eqD x y = true ∨ okLt x y = true)
  | [], _, _, _, _, _, h, _ => by simp at h
  | _ :: _, [], _, _, _, _, _, h => by simp at h
  | x' :: xs, y' :: ys, 0, x, y, h, h1, h2 => by
    simp at h1 h2; subst h1; subst h2
    simp only [okLtL, Bool.and_eq_true, Bool.or_eq_true] at h
    exact h.1
  | x' :: xs, y' :: ys, j + 1, x, y, h, h1, h2 => by
    simp only [okLtL, Bool.and_eq_true] at h
    exact okLtL_at (xs := xs) (ys := ys) (j := j) h.2 (by simpa using h1) (by simpa using h2)
theorem ltAt (I : Inv X pins σ H s) : ∀ (n : Nat) (a b : D) (x y : V) (v u : Value) (A : Around), depthD a ≤ n → Rep X.K R H a x → Rep X.K R H b y → RelV x v → RelV y u → okLt a b = true → A.units + min (depthD a) (depthD b) < cLine → Ob.RcOp .Lt A s v u (ltD a b) := by
  intro n
  induction n with
  | zero =>
    intro a b x y v u A hn ra rb rx ry ok hu
    cases ra with
    | int i =>
      cases rb with
      | int j =>
        obtain ⟨t, rfl⟩ := rx
        obtain ⟨t', rfl⟩ := ry
        rw [ltD]
        exact Ob.RcOp.lt_int _ _ _ _
      | _ => simp [okLt] at ok
    | str i =>
      cases rb with
      | str j =>
        obtain ⟨t, rfl⟩ := rx
        obtain ⟨t', rfl⟩ := ry
        rw [ltD, ltS_eq]
        exact fun _ _ _ _ h => PySem.P.lt_str h
      | _ => simp [okLt] at ok
    | tup h t z => simp [depthD] at hn
    | _ => simp [okLt] at ok
  | succ n ih =>
    intro a b x y v u A hn ra rb rx ry ok hu
    cases ra with
    | int i =>
      cases rb with
      | int j =>
        obtain ⟨t, rfl⟩ := rx
        obtain ⟨t', rfl⟩ := ry
        rw [ltD]
        exact Ob.RcOp.lt_int _ _ _ _
      | _ => simp [okLt] at ok
    | str i =>
      cases rb with
      | str j =>
        obtain ⟨t, rfl⟩ := rx
        obtain ⟨t', rfl⟩ := ry
        rw [ltD, ltS_eq]
        exact fun _ _ _ _ h => PySem.P.lt_str h
      | _ => simp [okLt] at ok
    | @tup a1 vs1 ds1 h1 t1 z1 =>
      cases rb with
      | @tup a2 vs2 ds2 h2 t2 z2 =>
        have ok' : okLtL ds1 ds2 = true := by simpa [okLt] using ok
        obtain rfl : v = Value.ref a1 := rx
        obtain rfl : u = Value.ref a2 := ry
        obtain ⟨its, r1, p1, _⟩ := I.tuple h1.sq
        obtain ⟨its2, r2, p2, _⟩ := I.tuple h2.sq
        have hn' : depthL ds1 ≤ n := by simp only [depthD] at hn; omega
        have hu' : A.units + 1 + min (depthL ds1) (depthL ds2) < cLine := by simp only [depthD] at hu; omega
        have hl1 : its.toArray.size = ds1.length := by rw [List.size_toArray, t1.length, r1.length]
        have hl2 : its2.toArray.size = ds2.length := by rw [List.size_toArray, t2.length, r2.length]
        have at1 : ∀ j (h : j < its.toArray.size), ∃ d w, ds1[j]? = some d ∧ Rep X.K R H d w ∧ RelV w its.toArray[j] := fun j h => by
          have hj : j < ds1.length := by omega
          obtain ⟨w, hw, rw'⟩ := t1.get (List.getElem?_eq_getElem hj)
          obtain ⟨u', hu', ru⟩ := r1.get hw
          refine ⟨_, w, List.getElem?_eq_getElem hj, rw', ?_⟩
          have : its.toArray[j] = u' := by
            have e := (List.getElem?_eq_some_iff.mp hu').2
            simpa using e
          rw [this]; exact ru
        have at2 : ∀ j (h : j < its2.toArray.size), ∃ d w, ds2[j]? = some d ∧ Rep X.K R H d w ∧ RelV w its2.toArray[j] := fun j h => by
          have hj : j < ds2.length := by omega
          obtain ⟨w, hw, rw'⟩ := t2.get (List.getElem?_eq_getElem hj)
          obtain ⟨u', hu', ru⟩ := r2.get hw
          refine ⟨_, w, List.getElem?_eq_getElem hj, rw', ?_⟩
          have : its2.toArray[j] = u' := by
            have e := (List.getElem?_eq_some_iff.mp hu').2
            simpa using e
          rw [this]; exact ru
        have Z := Ob.RcOp.tuples_lt (A := A) (s := s) (e := fun j => eqD (ds1.getD j .non) (ds2.getD j .non)) (r := fun j => ltD (ds1.getD j .non) (ds2.getD j .non)) p1 p2 (by omega)
          (fun j g1 g2 => by
            obtain ⟨d, w, e1, q1, q2⟩ := at1 j g1
            obtain ⟨d', w', e2, q3, q4⟩ := at2 j g2
            have e3 : ds1.getD j .non = d := by simp [List.getD, e1]
            have e4 : ds2.getD j .non = d' := by simp [List.getD, e2]
            show SeqAt.EqAt A.in1 s _ _ (eqD (ds1.getD j .non) (ds2.getD j .non))
            rw [e3, e4]
            refine Rep.eqAt I q1 q3 q2 q4 (okLtL_at ok' e1 e2).1 ?_
            have a1 := depth_mem e1
            have a2 := depth_mem e2
            show A.units + 1 + _ < _
            omega)
          (fun j g1 g2 hne => by
            obtain ⟨d, w, e1, q1, q2⟩ := at1 j g1
            obtain ⟨d', w', e2, q3, q4⟩ := at2 j g2
            have e3 : ds1.getD j .non = d := by simp [List.getD, e1]
            have e4 : ds2.getD j .non = d' := by simp [List.getD, e2]
            show Ob.RcOp .Lt A.in1 s _ _ (ltD (ds1.getD j .non) (ds2.getD j .non))
            have hne' : eqD (ds1.getD j .non) (ds2.getD j .non) = false := hne
            rw [e3, e4] at hne' ⊢
            have a1 := depth_mem e1
            have a2 := depth_mem e2
            refine ih d d' w w' _ _ A.in1 (by omega) q1 q3 q2 q4 ?_ ?_
            · rcases (okLtL_at ok' e1 e2).2 with z | z
              · rw [hne'] at z; cases z
              · exact z
            · show A.units + 1 + _ < _
              omega)
        rw [hl1, hl2, lexAt_eq ds1 ds2 0 _ _ fun j x' y' hx hy => by simp [List.getD, hx, hy]] at Z
        rw [ltD]
        exact Z
      | _ => simp [okLt] at ok
    | _ => simp [okLt] at ok
end
section
variable {X : Cx}
theorem BorOk.repOf {K : PySem.W.Frag} {R : Addr → Prop} {H : Hp} {d : D} {v : V} (h : BorOk K R H d v) (hm : isMut d = false) : Rep K R H d v := by
  cases d with
  | lst ds => cases hm
  | _ => exact h
theorem okLt_flat {a b : D} (h : okLt a b = true) : isMut a = false ∧ isMut b = false := by
  cases a <;> cases b <;> simp [okLt] at h <;> exact ⟨rfl, rfl⟩
theorem opD_lt (hu : X.A.units + 200 < cLine) : OpR X (compareOp .Lt) (rD X.K (fun a b => (opCmp .lt a b).map .bl) true) := by
  intro pins s σ H x y v u Q I rx ry ⟨R, da, db, d, ha, hb, e, q⟩
  obtain ⟨c, e1, rfl⟩ := Option.map_eq_some_iff.mp e
  have e2 : opLt da db = some c := e1
  unfold opLt at e2
  split at e2
  · rename_i ok
    cases e2
    rw [Bool.and_eq_true, decide_eq_true_eq] at ok
    obtain ⟨m1, m2⟩ := okLt_flat ok.1
    exact (ltAt I (depthD da) da db x y v u X.A (Nat.le_refl _) (ha.repOf m1) (hb.repOf m2) rx ry ok.1 (by omega)) X.prog X.w X.xe _ ⟨.bl _, H, I, rfl, q _ _ (.old (.bl _) fun _ => rfl)⟩
  · cases e2
theorem opD_le : OpR X (compareOp .LtE) (rD X.K (fun a b => (opCmp .le a b).map .bl) true) := by
  intro pins s σ H x y v u Q I rx ry ⟨R, da, db, d, ha, hb, e, q⟩
  obtain ⟨c, e1, rfl⟩ := Option.map_eq_some_iff.mp e
  unfold opCmp at e1
  split at e1 <;> first | (rename_i h; cases h; done) | skip
  all_goals first | (cases e1; done) | skip
  · cases e1; cases ha.int; cases hb.int
    exact op_le pins s σ H _ _ v u Q I rx ry ⟨_, _, rfl, rfl, q _ _ (.old (.bl _) fun _ => rfl)⟩
  · cases e1
    obtain ⟨rfl, _⟩ := ha.str
    obtain ⟨rfl, _⟩ := hb.str
    rw [ltS_eq] at q
    exact op_le_str pins s σ H _ _ v u Q I rx ry ⟨_, _, rfl, rfl, q _ _ (.old (.bl _) fun _ => rfl)⟩
theorem opD_gt : OpR X (compareOp .Gt) (rD X.K (fun a b => (opCmp .gt a b).map .bl) true) := by
  intro pins s σ H x y v u Q I rx ry ⟨R, da, db, d, ha, hb, e, q⟩
  obtain ⟨c, e1, rfl⟩ := Option.map_eq_some_iff.mp e
  unfold opCmp at e1
  split at e1 <;> first | (rename_i h; cases h; done) | skip
  all_goals first | (cases e1; done) | skip
  · cases e1; cases ha.int; cases hb.int
    exact op_gt pins s σ H _ _ v u Q I rx ry ⟨_, _, rfl, rfl, q _ _ (.old (.bl _) fun _ => rfl)⟩
  · cases e1
    obtain ⟨rfl, _⟩ := ha.str
    obtain ⟨rfl, _⟩ := hb.str
    rw [ltS_eq] at q
    exact op_gt_str pins s σ H _ _ v u Q I rx ry ⟨_, _, rfl, rfl, q _ _ (.old (.bl _) fun _ => rfl)⟩
theorem opD_ge : OpR X (compareOp .GtE) (rD X.K (fun a b => (opCmp .ge a b).map .bl) true) := by
  intro pins s σ H x y v u Q I rx ry ⟨R, da, db, d, ha, hb, e, q⟩
  obtain ⟨c, e1, rfl⟩ := Option.map_eq_some_iff.mp e
  unfold opCmp at e1
  split at e1 <;> first | (rename_i h; cases h; done) | skip
  all_goals first | (cases e1; done) | skip
  · cases e1; cases ha.int; cases hb.int
    exact op_ge pins s σ H _ _ v u Q I rx ry ⟨_, _, rfl, rfl, q _ _ (.old (.bl _) fun _ => rfl)⟩
  · cases e1
    obtain ⟨rfl, _⟩ := ha.str
    obtain ⟨rfl, _⟩ := hb.str
    rw [ltS_eq] at q
    exact op_ge_str pins s σ H _ _ v u Q I rx ry ⟨_, _, rfl, rfl, q _ _ (.old (.bl _) fun _ => rfl)⟩
/-! ### is -/
def isNonD : D → Bool
  | .non => true
  | _ => false
theorem BorOk.isNon {K : PySem.W.Frag} {R : Addr → Prop} {H : Hp} {d : D} {v : V} (h : BorOk K R H d v) : decide (v = .non) = isNonD d := by
  cases d with
  | lst ds => obtain ⟨a, vs, rfl, _⟩ := h; rfl
  | non => cases h.non; rfl
  | bl b => cases h.bl; rfl
  | int b => cases h.int; rfl
  | str b => obtain ⟨rfl, _⟩ := h.str; rfl
  | tup b => obtain ⟨p, vs, rfl, _⟩ := h.tup; rfl
  | _ => cases (show Rep K R H _ v from h)
theorem opIs_non (a : D) : opIs a .non = some (isNonD a) := by
  unfold opIs; cases a <;> rfl
theorem opD_is : OpR X (compareOp .Is) (rD X.K (fun a b => (opCmp .is_ a b).map .bl) true) := by
  intro pins s σ H x y v u Q I rx ry ⟨R, da, db, d, ha, hb, e, q⟩
  obtain ⟨c, e1, rfl⟩ := Option.map_eq_some_iff.mp e
  have e2 : opIs da db = some c := e1
  cases db with
  | non =>
    cases hb.non
    have hn := ha.isNon
    rw [opIs_non] at e2
    cases e2
    exact op_isN pins s σ H _ _ v u Q I rx ry ⟨rfl, by rw [hn]; exact q _ _ (.old (.bl _) fun _ => rfl)⟩
  | bl k =>
    unfold opIs at e2
    cases da with
    | bl j =>
      cases e2
      cases ha.bl
      cases hb.bl
      refine op_is_bl pins s σ H _ _ v u Q I rx ry ⟨_, _, rfl, rfl, ?_⟩
      have : (decide (j = k)) = (j == k) := by cases j <;> cases k <;> rfl
      rw [this]
      exact q _ _ (.old (.bl _) fun _ => rfl)
    | _ => cases e2
  | _ => unfold opIs at e2; cases e2
theorem opD_isnot : OpR X (compareOp .IsNot) (rD X.K (fun a b => (opCmp .isnot a b).map .bl) true) := by
  intro pins s σ H x y v u Q I rx ry ⟨R, da, db, d, ha, hb, e, q⟩
  obtain ⟨c, e1, rfl⟩ := Option.map_eq_some_iff.mp e
  obtain ⟨c', e2, rfl⟩ := Option.map_eq_some_iff.mp (show (opIs da db).map (!·) = some c from e1)
  cases db with
  | non =>
    cases hb.non
    have hn := ha.isNon
    rw [opIs_non] at e2
    cases e2
    exact op_notN pins s σ H _ _ v u Q I rx ry ⟨rfl, by rw [hn]; exact q _ _ (.old (.bl _) fun _ => rfl)⟩
  | bl k =>
    unfold opIs at e2
    cases da with
    | bl j =>
      cases e2
      cases ha.bl
      cases hb.bl
      refine op_isnot_bl pins s σ H _ _ v u Q I rx ry ⟨_, _, rfl, rfl, ?_⟩
      have : (decide (j = k)) = (j == k) := by cases j <;> cases k <;> rfl
      rw [this]
      exact q _ _ (.old (.bl _) fun _ => rfl)
    | _ => cases e2
  | _ => unfold opIs at e2; cases e2
/-! ### in -/
theorem allOk_of : ∀ {x : D} {ys : List D}, allOk x ys = true → plainL ys = true ∧ (ys ≠ [] → plainD x = true) ∧ min (depthL ys) (depthD x) ≤ 100
  | x, [], _ => ⟨rfl, fun h => absurd rfl h, by simp [depthL]⟩
  | x, y :: ys, h => by
    simp only [allOk, Bool.and_eq_true] at h
    obtain ⟨h1, h2⟩ := h
    obtain ⟨p1, p2, p3⟩ := okEq_of h1
    obtain ⟨q1, q2, q3⟩ := allOk_of h2
    refine ⟨by simp only [plainL, p1, q1]; rfl, fun _ => p2, ?_⟩
    simp only [depthL]; omega
theorem anyEq_py : ∀ {x : D} {ys : List D}, plainD x = true → plainL ys = true → ((toPyL ys).any fun y => PyData.eqv y (toPy x)) = anyEq x ys
  | x, [], _, _ => rfl
  | x, y :: ys, h1, h2 => by
    simp only [plainL, Bool.and_eq_true] at h2
    rw [toPyL, List.any_cons, toPy_eq _ _ h2.1 h1, anyEq_py h1 h2.2, anyEq]
theorem findS_spec : ∀ (x y : List Nat) (k : Nat), match findS x y k with
    | some i => k ≤ i ∧ (i - k) + x.length ≤ y.length ∧ (y.drop (i - k)).take x.length = x ∧ ∀ j, j < i - k → (y.drop j).take x.length ≠ x
    | none => ∀ j, j ≤ y.length → (y.drop j).take x.length ≠ x := by
  have pre : ∀ x y : List Nat, isPre x y = true ↔ y.take x.length = x := by
    intro x
    induction x with
    | nil => intro y; simp [isPre]
    | cons a x ih =>
      intro y
      cases y with
      | nil => simp [isPre]
      | cons b y =>
        simp only [isPre, Bool.and_eq_true, beq_iff_eq, List.length_cons, List.take_succ_cons, List.cons.injEq, ih]
        constructor
        · rintro ⟨rfl, h⟩; exact ⟨rfl, h⟩
        · rintro ⟨rfl, h⟩; exact ⟨rfl, h⟩
  intro x y
  induction y with
  | nil =>
    intro k
    unfold findS
    cases x with
    | nil => simp
    | cons a x => simp
  | cons b y ih =>
    intro k
    rw [findS.eq_def]
    simp only
    by_cases hp : isPre x (b :: y) = true
    · rw [if_pos hp]
      have h := (pre x (b :: y)).mp hp
      refine ⟨Nat.le_refl _, ?_, by simpa using h, fun j hj => absurd hj (by omega)⟩
      have := congrArg List.length h
      rw [List.length_take] at this
      simp only [Nat.sub_self, Nat.zero_add]
      omega
    · rw [if_neg hp]
      have h := ih (k + 1)
      have hn : ((b :: y).drop 0).take x.length ≠ x := fun z => hp ((pre x (b :: y)).mpr (by simpa using z))
      cases e : findS x y (k + 1) with
      | some i =>
        rw [e] at h
        obtain ⟨h1, h2, h3, h4⟩ := h
        refine ⟨by omega, ?_, ?_, fun j hj => ?_⟩
        · simp only [List.length_cons]; omega
        · rw [show i - k = (i - (k + 1)) + 1 by omega, List.drop_succ_cons]; exact h3
        · cases j with
          | zero => exact hn
          | succ j => rw [List.drop_succ_cons]; exact h4 j (by omega)
      | none =>
        rw [e] at h
        intro j hj
        cases j with
        | zero => exact hn
        | succ j => rw [List.drop_succ_cons]; exact h j (by simp only [List.length_cons] at hj; omega)
theorem at_iff (x y : List Nat) (i : Nat) : StrLaws.At (mkS y) (mkS x) (mkS y).length i ↔ i + x.length ≤ y.length ∧ (y.drop i).take x.length = x := by
  unfold StrLaws.At
  rw [StrLaws.subAt_eq, mkS_len, mkS_len, mkS_cps, mkS_cps, beq_iff_eq]
theorem find_spec (x y : List Nat) : match findS x y 0 with
    | some i => ∃ r, Builtin.Str.occurrences (mkS y) (mkS x) 0 (mkS y).length 1 = i :: r
    | none => Builtin.Str.occurrences (mkS y) (mkS x) 0 (mkS y).length 1 = [] := by
  have h := findS_spec x y 0
  rcases StrLaws.occ_head (mkS y) (mkS x) 1 (Nat.le_refl _) with ⟨e, hn⟩ | ⟨i, r, e, ha, hb⟩
  · cases f : findS x y 0 with
    | none => exact e
    | some i =>
      rw [f] at h
      exact absurd ((at_iff x y i).mpr ⟨by simpa using h.2.1, by simpa using h.2.2.1⟩) (hn i)
  · obtain ⟨a1, a2⟩ := (at_iff x y i).mp ha
    cases f : findS x y 0 with
    | none =>
      rw [f] at h
      exact absurd a2 (h i (by omega))
    | some j =>
      rw [f] at h
      refine ⟨r, ?_⟩
      obtain ⟨b1, b2, b3, b4⟩ := h
      rw [Nat.sub_zero] at b2 b3 b4
      have : j = i := by
        rcases Nat.lt_trichotomy j i with z | z | z
        · exact absurd ((at_iff x y j).mpr ⟨b2, b3⟩) (hb j z)
        · exact z
        · exact absurd a2 (b4 i z)
      rw [this]; exact e
theorem infix_occ (x y : List Nat) : (!(Builtin.Str.occurrences (mkS y) (mkS x) 0 (mkS y).length 1).isEmpty) = infixS x y := by
  have h := find_spec x y
  unfold infixS
  cases f : findS x y 0 with
  | none => rw [f] at h; rw [h]; rfl
  | some i => rw [f] at h; obtain ⟨r, e⟩ := h; rw [e]; rfl
theorem opD_in (hu : X.A.units + 200 < cLine) : OpR X (compareOp .In) (rD X.K (fun a b => (opCmp .in_ a b).map .bl) true) := by
  intro pins s σ H x y v u Q I rx ry ⟨R, da, db, d, ha, hb, e, q⟩
  obtain ⟨c, e1, rfl⟩ := Option.map_eq_some_iff.mp e
  have e2 : opIn da db = some c := e1
  have fin : ∀ {b}, b = c → EP X pins σ Q (.bool b) s := fun {b} z => by subst z; exact ⟨.bl _, H, I, rfl, q _ _ (.old (.bl _) fun _ => rfl)⟩
  cases db with
  | tup ys =>
    unfold opIn at e2
    simp only at e2
    split at e2
    · rename_i ok
      cases e2
      obtain ⟨q1, q2, q3⟩ := allOk_of ok
      by_cases hy : ys = []
      · subst hy
        obtain ⟨p, vs, rfl, h2, t2, _⟩ := hb.tup
        cases t2
        obtain rfl : u = Value.ref p := ry
        obtain ⟨its, r2, p2, _⟩ := I.tuple h2
        cases r2
        exact SeqAt.in_tupleAt (fun _ => false) p2 (fun w hw => by simp at hw) (fin (by simp [anyEq]))
      · obtain ⟨d1, l1⟩ := ha.dp (q2 hy)
        obtain ⟨d2, l2⟩ := hb.dp (by simpa [plainD] using q1)
        obtain ⟨as, r1⟩ := Dp.reads I _ x v d1 rx
        obtain ⟨bs, r2⟩ := Dp.reads I _ y u d2 ry
        rw [toPy] at r2 l2
        rw [PyData.canLay0] at l2
        exact SeqAt.in_tuple_reads r2 r1 l2 l1 (by rw [toPyL_depth _ q1, toPy_depth _ (q2 hy)]; omega) (fin (anyEq_py (q2 hy) q1))
    · cases e2
  | lst ys =>
    unfold opIn at e2
    simp only at e2
    split at e2
    · rename_i ok
      cases e2
      obtain ⟨q1, q2, q3⟩ := allOk_of ok
      by_cases hy : ys = []
      · subst hy
        obtain ⟨p, vs, rfl, h2, t2, _⟩ := hb.lst
        cases t2
        obtain rfl : u = Value.ref p := ry
        obtain ⟨its, r2, p2, _⟩ := I.list h2
        cases r2
        exact SeqAt.in_listAt (fun _ => false) p2.isList (fun w hw => by simp at hw) (fin (by simp [anyEq]))
      · obtain ⟨d1, l1⟩ := ha.dp (q2 hy)
        obtain ⟨d2, l2⟩ := hb.dp (by simpa [plainD] using q1)
        obtain ⟨as, r1⟩ := Dp.reads I _ x v d1 rx
        obtain ⟨bs, r2⟩ := Dp.reads I _ y u d2 ry
        rw [toPy] at r2 l2
        rw [PyData.canLay0] at l2
        exact SeqAt.in_list_reads r2 r1 l2 l1 (by rw [toPyL_depth _ q1, toPy_depth _ (q2 hy)]; omega) (fin (anyEq_py (q2 hy) q1))
    · cases e2
  | str t =>
    cases da with
    | str z =>
      cases e2
      obtain ⟨rfl, _⟩ := ha.str
      obtain ⟨rfl, _⟩ := hb.str
      refine op_in_str pins s σ H _ _ v u Q I rx ry ⟨_, _, rfl, rfl, ?_⟩
      rw [infix_occ]
      exact q _ _ (.old (.bl _) fun _ => rfl)
    | _ => cases e2
  | dct ks vs => cases (show Rep _ _ _ _ _ from hb)
  | _ => cases e2
theorem opD_notin (hu : X.A.units + 200 < cLine) : OpR X (compareOp .NotIn) (rD X.K (fun a b => (opCmp .notin a b).map .bl) true) := by
  intro pins s σ H x y v u Q I rx ry ⟨R, da, db, d, ha, hb, e, q⟩
  obtain ⟨c, e1, rfl⟩ := Option.map_eq_some_iff.mp e
  obtain ⟨c', e2, rfl⟩ := Option.map_eq_some_iff.mp (show (opIn da db).map (!·) = some c from e1)
  have fin : ∀ {b}, b = c' → EP X pins σ Q (.bool (!b)) s := fun {b} z => by subst z; exact ⟨.bl _, H, I, rfl, q _ _ (.old (.bl _) fun _ => rfl)⟩
  cases db with
  | tup ys =>
    unfold opIn at e2
    simp only at e2
    split at e2
    · rename_i ok
      cases e2
      obtain ⟨q1, q2, q3⟩ := allOk_of ok
      by_cases hy : ys = []
      · subst hy
        obtain ⟨p, vs, rfl, h2, t2, _⟩ := hb.tup
        cases t2
        obtain rfl : u = Value.ref p := ry
        obtain ⟨its, r2, p2, _⟩ := I.tuple h2
        cases r2
        exact SeqAt.notIn_tupleAt (fun _ => false) p2 (fun w hw => by simp at hw) (fin (by simp [anyEq]))
      · obtain ⟨d1, l1⟩ := ha.dp (q2 hy)
        obtain ⟨d2, l2⟩ := hb.dp (by simpa [plainD] using q1)
        obtain ⟨as, r1⟩ := Dp.reads I _ x v d1 rx
        obtain ⟨bs, r2⟩ := Dp.reads I _ y u d2 ry
        rw [toPy] at r2 l2
        rw [PyData.canLay0] at l2
        exact SeqAt.notIn_tuple_reads r2 r1 l2 l1 (by rw [toPyL_depth _ q1, toPy_depth _ (q2 hy)]; omega) (fin (anyEq_py (q2 hy) q1))
    · cases e2
  | lst ys =>
    unfold opIn at e2
    simp only at e2
    split at e2
    · rename_i ok
      cases e2
      obtain ⟨q1, q2, q3⟩ := allOk_of ok
      by_cases hy : ys = []
      · subst hy
        obtain ⟨p, vs, rfl, h2, t2, _⟩ := hb.lst
        cases t2
        obtain rfl : u = Value.ref p := ry
        obtain ⟨its, r2, p2, _⟩ := I.list h2
        cases r2
        exact SeqAt.notIn_listAt (fun _ => false) p2.isList (fun w hw => by simp at hw) (fin (by simp [anyEq]))
      · obtain ⟨d1, l1⟩ := ha.dp (q2 hy)
        obtain ⟨d2, l2⟩ := hb.dp (by simpa [plainD] using q1)
        obtain ⟨as, r1⟩ := Dp.reads I _ x v d1 rx
        obtain ⟨bs, r2⟩ := Dp.reads I _ y u d2 ry
        rw [toPy] at r2 l2
        rw [PyData.canLay0] at l2
        exact SeqAt.notIn_list_reads r2 r1 l2 l1 (by rw [toPyL_depth _ q1, toPy_depth _ (q2 hy)]; omega) (fin (anyEq_py (q2 hy) q1))
    · cases e2
  | str t =>
    cases da with
    | str z =>
      cases e2
      obtain ⟨rfl, _⟩ := ha.str
      obtain ⟨rfl, _⟩ := hb.str
      refine op_notIn_str pins s σ H _ _ v u Q I rx ry ⟨_, _, rfl, rfl, ?_⟩
      rw [infix_occ]
      exact q _ _ (.old (.bl _) fun _ => rfl)
    | _ => cases e2
  | dct ks vs => cases (show Rep _ _ _ _ _ from hb)
  | _ => cases e2
end
end Ev
end -- EvOp3

section -- EvOp4
set_option Elab.async false
set_option linter.all false
set_option maxRecDepth 100000
set_option maxHeartbeats 1000000
/-! EvOp4: subscripts, slices, truth, built-ins. -/
namespace Ev
open PySem PySem.Spec PyProof.Rows L2

section
variable {X : Cx}
/-! ### places -/
theorem atD_eq {α : Type} (xs : List α) (i : Int) : atD xs i = L2.atI xs i := rfl
theorem ixI_eq (n : Nat) (i : Int) : ixI n i = L2.ixN n i := rfl
theorem RepL.at {K : PySem.W.Frag} {R : Addr → Prop} {H : Hp} {ds : List D} {vs : List V} {i : Int} {d : D} (t : RepL K R H ds vs) (h : atD ds i = some d) : ∃ v, L2.atI vs i = some v ∧ Rep K R H d v := by
  unfold atD at h
  cases e : ixI ds.length i with
  | none => rw [e] at h; cases h
  | some j =>
    rw [e] at h
    obtain ⟨v, hv, r⟩ := t.get (show ds[j]? = some d from h)
    refine ⟨v, ?_, r⟩
    unfold L2.atI
    rw [← t.length, ← ixI_eq, e]
    exact hv
def rIxD (K : PySem.W.Frag) : R2 := fun x y H Q => ∃ (R : Addr → Prop) (da db d : D), BorOk K R H da x ∧ BorOk K R H db y ∧ opSub da db = some d ∧ ∀ z, Rep K R H d z → Q z H
theorem ixD : IxR X (rIxD X.K) := by
  intro value slice pins s σ H x y v u Q I rx ry ⟨R, da, db, d, ha, hb, e, q⟩ hs
  unfold opSub at e
  split at e
  · cases hb.int
    obtain ⟨p, vs, rfl, h1, t1, _⟩ := ha.tup
    obtain ⟨z, hz, rz⟩ := t1.at e
    exact ix_tup value slice pins s σ H _ _ v u Q I rx ry ⟨p, vs, _, z, rfl, rfl, h1, hz, q z rz⟩ hs
  · cases hb.int
    obtain ⟨p, vs, rfl, h1, t1, _⟩ := ha.lst
    obtain ⟨z, hz, rz⟩ := t1.at e
    exact ix_list value slice pins s σ H _ _ v u Q I rx ry ⟨p, vs, _, z, rfl, rfl, h1, hz, q z rz⟩ hs
  · cases hb.int
    obtain ⟨rfl, hz⟩ := ha.str
    obtain ⟨c, hc, rfl⟩ := Option.map_eq_some_iff.mp e
    rename_i s0 k0
    have hm : c ∈ s0 := by
      obtain ⟨j, _, hj, _⟩ := L2.atI_get (show L2.atI s0 k0 = some c from hc)
      exact List.mem_of_getElem? hj
    refine ix_str value slice pins s σ H _ _ v u Q I rx ry ⟨_, _, c, rfl, rfl, by rw [mkS_len, lim_eq]; exact hz.1, hc, q _ ?_⟩ hs
    exact .str [c] (hz.one hm)
  · cases (show Rep _ _ _ _ _ from ha)
  · cases e
/-! ### slices -/
def toPart : Option Int → D
  | none => .non
  | some i => .int i
theorem sliceIx_eq (n d : Nat) (o : Option Int) : sliceIx n d (toPart o) = some (HT.sIx n d o) := by
  cases o <;> rfl
def rSlD (K : PySem.W.Frag) : V → Option Int → Option Int → Hp → VK → Prop := fun x lo hi H Q => ∃ (R : Addr → Prop) (da d : D), BorOk K R H da x ∧ opSlice da (toPart lo) (toPart hi) = some d ∧ ∀ z H', OpRes K R true H d z H' → Q z H'
theorem cutL_eq {α : Type} (xs : List α) (l h : Nat) : cutL xs l h = (xs.drop l).take (h - l) := rfl
theorem RepL.cut {K : PySem.W.Frag} {R : Addr → Prop} {H : Hp} {ds : List D} {vs : List V} (t : RepL K R H ds vs) (lo hi : Option Int) : RepL K R H (cutL ds (HT.sIx ds.length 0 lo) (HT.sIx ds.length ds.length hi)) (cutV vs lo hi) := by
  unfold cutL cutV
  rw [t.length]
  exact (t.drop _).take _
theorem cutL_len {α : Type} (xs : List α) (l h : Nat) : (cutL xs l h).length ≤ xs.length := by
  unfold cutL; rw [List.length_take, List.length_drop]; omega
theorem slD : SlR X (rSlD X.K) := by
  intro pins s σ H x v vl vu lo hi sl Q I rx hs pl pu ⟨R, da, d, ha, e, q⟩
  cases da with
  | tup xs =>
    simp only [opSlice, sliceIx_eq, Option.bind_some, Option.map_some, Option.some.injEq] at e
    subst e
    have ra := ha.tupRep
    obtain ⟨p, vs, rfl, h1, t1, hz⟩ := ha.tup
    refine sl_tupA pins s σ H _ v vl vu lo hi sl Q I rx hs pl pu ⟨p, vs, rfl, h1, fun ⟨e1, e2⟩ => ?_, fun _ p' hp => ?_⟩
    · rw [← t1.length] at e1 e2
      have ew : cutL xs (HT.sIx xs.length 0 lo) (HT.sIx xs.length xs.length hi) = xs := by
        unfold cutL; rw [e1, e2]; simp
      rw [ew] at q
      exact q _ _ (.old ra fun _ => rfl)
    · exact q _ _ (.tup hp (t1.cut lo hi) (Nat.le_trans (cutL_len _ _ _) hz))
  | lst xs =>
    simp only [opSlice, sliceIx_eq, Option.bind_some, Option.map_some, Option.some.injEq] at e
    subst e
    obtain ⟨p, vs, rfl, h1, t1, hz⟩ := ha.lst
    exact sl_list pins s σ H _ v vl vu lo hi sl Q I rx hs pl pu ⟨p, vs, rfl, h1, fun p' hp => q _ _ (.lst hp (t1.cut lo hi) (Nat.le_trans (cutL_len _ _ _) hz))⟩
  | str xs =>
    simp only [opSlice, sliceIx_eq, Option.bind_some, Option.map_some, Option.some.injEq] at e
    subst e
    obtain ⟨rfl, hz⟩ := ha.str
    refine sl_str pins s σ H _ v vl vu lo hi sl Q I rx hs pl pu ⟨_, rfl, by rw [mkS_len, lim_eq]; exact hz.1, ?_⟩
    exact q _ _ (.old (.str _ (hz.cut _ _)) fun _ => rfl)
  | _ => simp [opSlice] at e
/-! ### truth -/
theorem truD {K : PySem.W.Frag} {R : Addr → Prop} {H : Hp} {d : D} {x : V} {b : Bool} (h : BorOk K R H d x) (e : truthD d = some b) : TruV K x H b := by
  cases d with
  | non => cases e; cases h.non; rfl
  | bl b => cases e; cases h.bl; rfl
  | int i => cases e; cases h.int; rfl
  | str t =>
    cases e
    obtain ⟨rfl, hz⟩ := h.str
    refine ⟨by rw [mkS_len, lim_eq]; exact hz.1, ?_⟩
    rw [mkS_len]
    cases t <;> simp [bne] <;> omega
  | tup xs =>
    cases e
    obtain ⟨p, vs, rfl, h1, t1, _⟩ := h.tup
    refine .inr (.inl ⟨vs, h1, ?_⟩)
    cases t1 <;> rfl
  | lst xs =>
    cases e
    obtain ⟨p, vs, rfl, h1, t1, _⟩ := h.lst
    refine .inl ⟨vs, h1, ?_⟩
    cases t1 <;> rfl
  | dct ks vs => cases (show Rep _ _ _ _ _ from h)
  | obj ks vs => cases (show Rep _ _ _ _ _ from h)
  | clo ks vs => cases (show Rep _ _ _ _ _ from h)
/-! ### built-ins -/
theorem pair1 {K : PySem.W.Frag} {R : Addr → Prop} {H : Hp} {d : D} {xs : List V} (h : Paired (fun d x => BorOk K R H d x) [d] xs) : ∃ x, xs = [x] ∧ BorOk K R H d x := by
  cases h with
  | cons r t => cases t; exact ⟨_, rfl, r⟩
theorem pair2 {K : PySem.W.Frag} {R : Addr → Prop} {H : Hp} {d e : D} {xs : List V} (h : Paired (fun d x => BorOk K R H d x) [d, e] xs) : ∃ x y, xs = [x, y] ∧ BorOk K R H d x ∧ BorOk K R H e y := by
  cases h with
  | cons r t =>
    cases t with
    | cons r2 t2 => cases t2; exact ⟨_, _, rfl, r, r2⟩
theorem cr_len : CallR X (.builtin "len") (rDs X.K (opB .len) true) := by
  intro pins s σ H xs us Q I r ⟨R, ds, d, hp, e, q⟩
  match ds, hp, e with
  | [d0], hp, e =>
    obtain ⟨x, rfl, hb⟩ := pair1 hp
    obtain ⟨n, hn, rfl⟩ := Option.map_eq_some_iff.mp (show (lenD d0).map (fun n : Nat => D.int n) = some d from e)
    refine call_len pins s σ H [x] us Q I r ⟨x, n, rfl, ?_, q _ _ (.old (.int _) fun _ => rfl)⟩
    cases d0 with
    | str t => cases hn; obtain ⟨rfl, hz⟩ := hb.str; exact ⟨by rw [mkS_len, lim_eq]; exact hz.1, rfl⟩
    | tup t => cases hn; obtain ⟨p, vs, rfl, h1, t1, _⟩ := hb.tup; exact .inr ⟨vs, h1, t1.length⟩
    | lst t => cases hn; obtain ⟨p, vs, rfl, h1, t1, _⟩ := hb.lst; exact .inl ⟨vs, h1, t1.length⟩
    | dct ks vs => cases (show Rep _ _ _ _ _ from hb)
    | _ => cases hn
  | [], hp, e => cases e
  | _ :: _ :: _, hp, e => cases e
theorem cr_tuple : CallR X (.type "tuple") (rDs X.K (opB .tuple) true) := by
  intro pins s σ H xs us Q I r ⟨R, ds, d, hp, e, q⟩
  match ds, hp, e with
  | [d0], hp, e =>
    obtain ⟨x, rfl, hb⟩ := pair1 hp
    cases d0 with
    | tup t =>
      cases e
      have ra := hb.tupRep
      obtain ⟨p, vs, rfl, h1, t1, hz⟩ := hb.tup
      exact call_tuple_of pins s σ H _ us Q I r ⟨p, vs, rfl, .inr ⟨h1, q _ _ (.old ra fun _ => rfl)⟩⟩
    | lst t =>
      cases e
      obtain ⟨p, vs, rfl, h1, t1, hz⟩ := hb.lst
      exact call_tuple_of pins s σ H _ us Q I r ⟨p, vs, rfl, .inl ⟨h1, fun l hl => q _ _ (.tup hl t1 hz)⟩⟩
    | _ => cases e
  | [], hp, e => cases e
  | _ :: _ :: _, hp, e => cases e
theorem cr_list : CallR X (.type "list") (rDs X.K (opB .list) true) := by
  intro pins s σ H xs us Q I r ⟨R, ds, d, hp, e, q⟩
  match ds, hp, e with
  | [d0], hp, e =>
    obtain ⟨x, rfl, hb⟩ := pair1 hp
    cases d0 with
    | tup t =>
      cases e
      obtain ⟨p, vs, rfl, h1, t1, hz⟩ := hb.tup
      exact call_list_of pins s σ H _ us Q I r ⟨p, vs, rfl, .inr h1, fun l hl => q _ _ (.lst hl t1 hz)⟩
    | lst t =>
      cases e
      obtain ⟨p, vs, rfl, h1, t1, hz⟩ := hb.lst
      exact call_list_of pins s σ H _ us Q I r ⟨p, vs, rfl, .inl h1, fun l hl => q _ _ (.lst hl t1 hz)⟩
    | _ => cases e
  | [], hp, e => cases e
  | _ :: _ :: _, hp, e => cases e
theorem allB_of : ∀ {ds : List D} {b : Bool}, allB ds = some b → ∃ bs : List Bool, ds = bs.map .bl ∧ b = bs.all id
  | [], b, h => by cases h; exact ⟨[], rfl, rfl⟩
  | .bl c :: ds, b, h => by
    obtain ⟨b', h', rfl⟩ := Option.map_eq_some_iff.mp (show (allB ds).map (c && ·) = some b from h)
    obtain ⟨bs, rfl, rfl⟩ := allB_of h'
    exact ⟨c :: bs, rfl, rfl⟩
  | .non :: _, _, h | .int _ :: _, _, h | .str _ :: _, _, h | .tup _ :: _, _, h | .lst _ :: _, _, h | .dct _ _ :: _, _, h | .obj _ _ :: _, _, h | .clo _ _ :: _, _, h => by cases h
theorem anyB_of : ∀ {ds : List D} {b : Bool}, anyB ds = some b → ∃ bs : List Bool, ds = bs.map .bl ∧ b = bs.any id
  | [], b, h => by cases h; exact ⟨[], rfl, rfl⟩
  | .bl c :: ds, b, h => by
    obtain ⟨b', h', rfl⟩ := Option.map_eq_some_iff.mp (show (anyB ds).map (c || ·) = some b from h)
    obtain ⟨bs, rfl, rfl⟩ := anyB_of h'
    exact ⟨c :: bs, rfl, rfl⟩
  | .non :: _, _, h | .int _ :: _, _, h | .str _ :: _, _, h | .tup _ :: _, _, h | .lst _ :: _, _, h | .dct _ _ :: _, _, h | .obj _ _ :: _, _, h | .clo _ _ :: _, _, h => by cases h
theorem sumI_of : ∀ {ds : List D} {b : Int}, sumI ds = some b → ∃ bs : List Int, ds = bs.map .int ∧ b = bs.sum
  | [], b, h => by cases h; exact ⟨[], rfl, rfl⟩
  | .int c :: ds, b, h => by
    obtain ⟨b', h', rfl⟩ := Option.map_eq_some_iff.mp (show (sumI ds).map (c + ·) = some b from h)
    obtain ⟨bs, rfl, rfl⟩ := sumI_of h'
    exact ⟨c :: bs, rfl, by rw [List.sum_cons]⟩
  | .non :: _, _, h | .bl _ :: _, _, h | .str _ :: _, _, h | .tup _ :: _, _, h | .lst _ :: _, _, h | .dct _ _ :: _, _, h | .obj _ _ :: _, _, h | .clo _ _ :: _, _, h => by cases h
theorem RepL.bls {K : PySem.W.Frag} {R : Addr → Prop} {H : Hp} : ∀ {bs : List Bool} {vs : List V}, RepL K R H (bs.map .bl) vs → vs = bs.map V.bl
  | [], _, .nil => rfl
  | b :: bs, _, .cons r t => by cases r; rw [RepL.bls t]; rfl
theorem RepL.ints {K : PySem.W.Frag} {R : Addr → Prop} {H : Hp} : ∀ {bs : List Int} {vs : List V}, RepL K R H (bs.map .int) vs → vs = bs.map V.int
  | [], _, .nil => rfl
  | b :: bs, _, .cons r t => by cases r; rw [RepL.ints t]; rfl
theorem cr_allD (hc : X.calm = true) : CallR X (.builtin "all") (rDs X.K (opB .all) true) := by
  intro pins s σ H xs us Q I r ⟨R, ds, d, hp, e, q⟩
  match ds, hp, e with
  | [.lst t], hp, e =>
    obtain ⟨x, rfl, hb⟩ := pair1 hp
    obtain ⟨b, hn, rfl⟩ := Option.map_eq_some_iff.mp (show (allB t).map D.bl = some d from e)
    obtain ⟨bs, rfl, rfl⟩ := allB_of hn
    obtain ⟨p, vs, rfl, h1, t1, _⟩ := hb.lst
    cases t1.bls
    exact cr_all hc pins s σ H _ us Q I r ⟨p, bs, rfl, h1, q _ _ (.old (.bl _) fun _ => rfl)⟩
  | [], hp, e => cases e
  | _ :: _ :: _, hp, e => simp [opB] at e
  | [.non], _, h | [.int _], _, h | [.str _], _, h | [.tup _], _, h | [.bl _], _, h | [.dct _ _], _, h | [.obj _ _], _, h | [.clo _ _], _, h => cases h
theorem cr_anyD (hc : X.calm = true) : CallR X (.builtin "any") (rDs X.K (opB .any) true) := by
  intro pins s σ H xs us Q I r ⟨R, ds, d, hp, e, q⟩
  match ds, hp, e with
  | [.lst t], hp, e =>
    obtain ⟨x, rfl, hb⟩ := pair1 hp
    obtain ⟨b, hn, rfl⟩ := Option.map_eq_some_iff.mp (show (anyB t).map D.bl = some d from e)
    obtain ⟨bs, rfl, rfl⟩ := anyB_of hn
    obtain ⟨p, vs, rfl, h1, t1, _⟩ := hb.lst
    cases t1.bls
    exact cr_any hc pins s σ H _ us Q I r ⟨p, bs, rfl, h1, q _ _ (.old (.bl _) fun _ => rfl)⟩
  | [], hp, e => cases e
  | _ :: _ :: _, hp, e => simp [opB] at e
  | [.non], _, h | [.int _], _, h | [.str _], _, h | [.tup _], _, h | [.bl _], _, h | [.dct _ _], _, h | [.obj _ _], _, h | [.clo _ _], _, h => cases h
theorem cr_sumD (hc : X.calm = true) : CallR X (.builtin "sum") (rDs X.K (opB .sum) true) := by
  intro pins s σ H xs us Q I r ⟨R, ds, d, hp, e, q⟩
  match ds, hp, e with
  | [.lst t], hp, e =>
    obtain ⟨x, rfl, hb⟩ := pair1 hp
    obtain ⟨b, hn, rfl⟩ := Option.map_eq_some_iff.mp (show (sumI t).map D.int = some d from e)
    obtain ⟨bs, rfl, rfl⟩ := sumI_of hn
    obtain ⟨p, vs, rfl, h1, t1, _⟩ := hb.lst
    cases t1.ints
    exact cr_sum hc pins s σ H _ us Q I r ⟨p, bs, rfl, h1, q _ _ (.old (.int _) fun _ => rfl)⟩
  | [], hp, e => cases e
  | _ :: _ :: _, hp, e => simp [opB] at e
  | [.non], _, h | [.int _], _, h | [.str _], _, h | [.tup _], _, h | [.bl _], _, h | [.dct _ _], _, h | [.obj _ _], _, h | [.clo _ _], _, h => cases h
theorem cr_min2D (hc : X.calm = true) : CallR X (.builtin "min") (rDs X.K (opB .min2) true) := by
  intro pins s σ H xs us Q I r ⟨R, ds, d, hp, e, q⟩
  unfold opB at e
  split at e <;> first | (rename_i h _; cases h; done) | (rename_i h; cases h; done) | (cases e; done) | skip
  · cases e
    obtain ⟨x, y, rfl, h1, h2⟩ := pair2 hp
    cases h1.int; cases h2.int
    exact call_min2 hc pins s σ H _ us Q I r ⟨_, _, rfl, q _ _ (.old (.int _) fun _ => rfl)⟩
theorem cr_max2D (hc : X.calm = true) : CallR X (.builtin "max") (rDs X.K (opB .max2) true) := by
  intro pins s σ H xs us Q I r ⟨R, ds, d, hp, e, q⟩
  unfold opB at e
  split at e <;> first | (rename_i h _; cases h; done) | (rename_i h; cases h; done) | (cases e; done) | skip
  · cases e
    obtain ⟨x, y, rfl, h1, h2⟩ := pair2 hp
    cases h1.int; cases h2.int
    exact call_max2 hc pins s σ H _ us Q I r ⟨_, _, rfl, q _ _ (.old (.int _) fun _ => rfl)⟩
theorem cr_absD : CallR X (.builtin "abs") (rDs X.K (opB .abs) true) := by
  intro pins s σ H xs us Q I r ⟨R, ds, d, hp, e, q⟩
  unfold opB at e
  split at e <;> first | (rename_i h _; cases h; done) | (rename_i h; cases h; done) | (cases e; done) | skip
  · cases e
    obtain ⟨x, rfl, h1⟩ := pair1 hp
    cases h1.int
    exact call_abs pins s σ H _ us Q I r ⟨_, rfl, q _ _ (.old (.int _) fun _ => rfl)⟩
theorem cr_intD : CallR X (.type "int") (rDs X.K (opB .int) true) := by
  intro pins s σ H xs us Q I r ⟨R, ds, d, hp, e, q⟩
  unfold opB at e
  split at e <;> first | (rename_i h _; cases h; done) | (rename_i h; cases h; done) | (cases e; done) | skip
  · cases e
    obtain ⟨x, rfl, h1⟩ := pair1 hp
    cases h1.int
    exact call_int1 pins s σ H _ us Q I r (.inl ⟨_, rfl, q _ _ (.old (.int _) fun _ => rfl)⟩)
  · cases e
    obtain ⟨x, rfl, h1⟩ := pair1 hp
    cases h1.bl
    exact call_int1 pins s σ H _ us Q I r (.inr ⟨_, rfl, q _ _ (.old (.int _) fun _ => rfl)⟩)
theorem cr_ordD : CallR X (.builtin "ord") (rDs X.K (opB .ord) true) := by
  intro pins s σ H xs us Q I r ⟨R, ds, d, hp, e, q⟩
  unfold opB at e
  split at e <;> first | (rename_i h _; cases h; done) | (rename_i h; cases h; done) | (cases e; done) | skip
  · cases e
    obtain ⟨x, rfl, h1⟩ := pair1 hp
    obtain ⟨rfl, hz⟩ := h1.str
    exact call_ord pins s σ H _ us Q I r ⟨_, rfl, rfl, q _ _ (.old (.int _) fun _ => rfl)⟩
/-! ### isinstance -/
def tyName : TyK → String
  | .int => "int"
  | .bool => "bool"
  | .str => "str"
  | .tuple => "tuple"
  | .list => "list"
  | .dict => "dict"
def tyD : D → String
  | .non => "NoneType"
  | .bl _ => "bool"
  | .int _ => "int"
  | .str _ => "str"
  | .tup _ => "tuple"
  | .lst _ => "list"
  | .dct _ _ => "dict"
  | _ => "?"
theorem SqL.tyx {K : PySem.W.Frag} {H : Hp} {p : Addr} {vs : List V} (h : SqL K H p vs) : TyX K H (.ref p) (.type "list") := by
  rcases h with (h | ⟨o, h⟩) | ⟨o, its, n, hk, hc, _⟩
  · exact .base (.lst h)
  · exact .base (.frz h)
  · exact .kList hk hc
theorem SqT.tyx {K : PySem.W.Frag} {H : Hp} {p : Addr} {vs : List V} (h : SqT K H p vs) : TyX K H (.ref p) (.type "tuple") := by
  rcases h with (h | ⟨o, h⟩) | ⟨o, its, n, hk, hc, _⟩
  · exact .base (.tup h)
  · exact .fTuple h
  · exact .kTuple hk hc
theorem tyx_of {K : PySem.W.Frag} {R : Addr → Prop} {H : Hp} {d : D} {x : V} (h : BorOk K R H d x) : TyX K H x (.type (tyD d)) := by
  cases d with
  | non => cases h.non; exact .base .non
  | bl b => cases h.bl; exact .base (.bl b)
  | int b => cases h.int; exact .base (.int b)
  | str b => obtain ⟨rfl, _⟩ := h.str; exact .base (.str _)
  | tup b => obtain ⟨p, vs, rfl, h1, _⟩ := h.tup; exact SqT.tyx h1
  | lst b => obtain ⟨p, vs, rfl, h1, _⟩ := h.lst; exact SqL.tyx h1
  | dct ks vs => cases (show Rep _ _ _ _ _ from h)
  | obj ks vs => cases (show Rep _ _ _ _ _ from h)
  | clo ks vs => cases (show Rep _ _ _ _ _ from h)
theorem kit_tab (d : D) (t : TyK) (b : Bool) (e : isTy d t = some b) (hd : ∀ c vs, d ≠ .obj c vs) (hd2 : ∀ c vs, d ≠ .clo c vs) : kitB (tyD d) (tyName t) = some b := by
  have key : ∀ (n : String) (f : TyK → Bool), n ∈ ["NoneType", "bool", "int", "str", "tuple", "list", "dict"] → (∀ t, f t = (if n = "bool" then t == .bool || t == .int else n == tyName t)) → kitB n (tyName t) = some (f t) := by
    intro n f hn hf
    rw [hf]
    clear e hf hd hd2
    revert n
    cases t <;> decide +kernel
  cases d with
  | non => cases e; exact key _ (fun _ => false) (by decide) (by intro t; cases t <;> rfl)
  | bl b => cases e; exact key "bool" (fun t => t == .bool || t == .int) (by decide) (by intro t; cases t <;> rfl)
  | int b => cases e; exact key "int" (fun t => t == .int) (by decide) (by intro t; cases t <;> rfl)
  | str b => cases e; exact key "str" (fun t => t == .str) (by decide) (by intro t; cases t <;> rfl)
  | tup b => cases e; exact key "tuple" (fun t => t == .tuple) (by decide) (by intro t; cases t <;> rfl)
  | lst b => cases e; exact key "list" (fun t => t == .list) (by decide) (by intro t; cases t <;> rfl)
  | dct b c => cases e; exact key "dict" (fun t => t == .dict) (by decide) (by intro t; cases t <;> rfl)
  | obj c vs => exact absurd rfl (hd c vs)
  | clo c vs => exact absurd rfl (hd2 c vs)
end
end Ev
end -- EvOp4

section -- EvSort
set_option Elab.async false
set_option linter.all false
set_option maxRecDepth 100000
set_option maxHeartbeats 1000000
/-! EvSort: sorted(..) of data. -/
namespace Ev
open PySem PySem.Spec PyProof.Rows L2

/-! ### data as rows of ints: the order of the rows is the data's, where the program tells it -/
mutual
def encD : D → List Int
  | .non => [0]
  | .bl b => [1, if b then 1 else 0]
  | .int i => [1, i]
  | .str s => 2 :: (s.map fun (c : Nat) => (c : Int) + 1) ++ [0]
  | .tup xs => 3 :: encL xs ++ [-1]
  | .lst xs => 4 :: encL xs ++ [-1]
  | _ => [5]
def encL : List D → List Int
  | [] => []
  | x :: xs => encD x ++ encL xs
end
theorem encD_head (d : D) : ∃ k r, encD d = k :: r ∧ 0 ≤ k := by
  cases d <;> (unfold encD; exact ⟨_, _, rfl, by decide⟩)
mutual
theorem encD_eq : ∀ x y : D, eqD x y = true → encD x = encD y
  | .non, y, h => by cases y <;> first | rfl | (simp [eqD] at h)
  | .bl a, y, h => by cases y <;> simp_all [eqD, encD]
  | .int i, y, h => by cases y <;> simp_all [eqD, encD]
  | .str s, y, h => by cases y <;> simp_all [eqD, encD]
  | .tup xs, y, h => by
    cases y with
    | tup ys => rw [eqD] at h; unfold encD; rw [encL_eq xs ys h]
    | _ => simp [eqD] at h
  | .lst xs, y, h => by
    cases y with
    | lst ys => rw [eqD] at h; unfold encD; rw [encL_eq xs ys h]
    | _ => simp [eqD] at h
  | .dct _ _, y, h => by cases y <;> simp [eqD] at h
  | .obj _ _, y, h => by cases y <;> simp [eqD] at h
  | .clo _ _, y, h => by cases y <;> simp [eqD] at h
theorem encL_eq : ∀ xs ys : List D, eqL xs ys = true → encL xs = encL ys
  | [], [], _ => rfl
  | [], _ :: _, h => by simp [eqL] at h
  | _ :: _, [], h => by simp [eqL] at h
  | x :: xs, y :: ys, h => by
    rw [eqL, Bool.and_eq_true] at h
    unfold encL
    rw [encD_eq x y h.1, encL_eq xs ys h.2]
end
theorem lexLt_pre : ∀ (p r r' : List Int), HT.lexLt (p ++ r) (p ++ r') = HT.lexLt r r'
  | [], _, _ => rfl
  | x :: p, r, r' => by
    rw [List.cons_append, List.cons_append, HT.lexLt]
    simp [lexLt_pre p r r']
theorem lexLt_str : ∀ (a b : List Nat) (r r' : List Int), HT.lexLt ((a.map fun (c : Nat) => (c : Int) + 1) ++ 0 :: r) ((b.map fun (c : Nat) => (c : Int) + 1) ++ 0 :: r') = if a == b then HT.lexLt r r' else ltS a b
  | [], [], r, r' => by simp [HT.lexLt]
  | [], y :: ys, r, r' => by
    have h1 : ¬ (0 : Int) = (y : Int) + 1 := by omega
    have h2 : (0 : Int) < (y : Int) + 1 := by omega
    simp [HT.lexLt, ltS, h1, h2]
  | x :: xs, [], r, r' => by
    have h1 : ¬ (x : Int) + 1 = 0 := by omega
    have h2 : ¬ (x : Int) + 1 < 0 := by omega
    simp [HT.lexLt, ltS, h1, h2]
  | x :: xs, y :: ys, r, r' => by
    have ih := lexLt_str xs ys r r'
    simp only [List.map_cons, List.cons_append, HT.lexLt, ltS]
    rcases Nat.lt_trichotomy x y with h | h | h
    · have h1 : (x : Int) + 1 < (y : Int) + 1 := by omega
      have h3 : ¬ (x : Int) + 1 = (y : Int) + 1 := by omega
      have h2 : (x == y) = false := by simp; omega
      rw [if_neg h3, if_pos h]
      simp [h2, h1]
    · subst h
      rw [if_pos rfl, ih, if_neg (Nat.lt_irrefl x)]
      simp
    · have h1 : ¬ (x : Int) + 1 < (y : Int) + 1 := by omega
      have h2 : ¬ (x : Int) + 1 = (y : Int) + 1 := by omega
      have h3 : (x == y) = false := by simp; omega
      have h4 : ¬ x < y := by omega
      rw [if_neg h2, if_neg h4, if_pos h]
      simp [h3, h1]
mutual
theorem lexLt_D : ∀ (x y : D) (r r' : List Int), okLt x y = true → eqD x y = false → HT.lexLt (encD x ++ r) (encD y ++ r') = ltD x y
  | .int i, y, r, r', h, he => by
    cases y with
    | int j =>
      have hne : i ≠ j := by simpa [eqD] using he
      simp only [encD, List.cons_append, List.nil_append, HT.lexLt, ltD]
      rw [if_pos trivial, if_neg hne]
    | _ => simp [okLt] at h
  | .str s, y, r, r', h, he => by
    cases y with
    | str t =>
      have hne : (s == t) = false := by simpa [eqD] using he
      have := lexLt_str s t r r'
      rw [hne] at this
      simp only [encD, List.cons_append, List.append_assoc, HT.lexLt, ltD, List.nil_append]
      simpa using this
    | _ => simp [okLt] at h
  | .tup xs, y, r, r', h, he => by
    cases y with
    | tup ys =>
      rw [okLt] at h
      rw [eqD] at he
      have := lexLt_L xs ys r r' h
      rw [he] at this
      simp only [encD, List.cons_append, List.append_assoc, HT.lexLt, ltD, List.nil_append]
      simpa using this
    | _ => simp [okLt] at h
  | .non, y, r, r', h, he => by cases y <;> simp [okLt] at h
  | .bl _, y, r, r', h, he => by cases y <;> simp [okLt] at h
  | .lst _, y, r, r', h, he => by cases y <;> simp [okLt] at h
  | .dct _ _, y, r, r', h, he => by cases y <;> simp [okLt] at h
  | .obj _ _, y, r, r', h, he => by cases y <;> simp [okLt] at h
  | .clo _ _, y, r, r', h, he => by cases y <;> simp [okLt] at h
theorem lexLt_L : ∀ (xs ys : List D) (r r' : List Int), okLtL xs ys = true → HT.lexLt (encL xs ++ -1 :: r) (encL ys ++ -1 :: r') = if eqL xs ys then HT.lexLt r r' else ltL xs ys
  | [], [], r, r', _ => by simp [encL, HT.lexLt, eqL]
  | [], y :: ys, r, r', _ => by
    obtain ⟨k, t, e, hk⟩ := encD_head y
    have h1 : (-1 : Int) < k := by omega
    have h3 : ¬ (-1 : Int) = k := by omega
    simp [encL, e, HT.lexLt, eqL, ltL, h1, h3]
  | x :: xs, [], r, r', _ => by
    obtain ⟨k, t, e, hk⟩ := encD_head x
    have h1 : ¬ k < (-1 : Int) := by omega
    have h2 : ¬ k = (-1 : Int) := by omega
    simp [encL, e, HT.lexLt, eqL, ltL, h1, h2]
  | x :: xs, y :: ys, r, r', h => by
    simp only [okLtL, Bool.and_eq_true, Bool.or_eq_true] at h
    simp only [encL, List.append_assoc]
    cases e : eqD x y with
    | true =>
      rw [encD_eq x y e, lexLt_pre, lexLt_L xs ys r r' h.2, eqL, ltL, e]
      simp
    | false =>
      have h1 : okLt x y = true := by
        rcases h.1.2 with z | z
        · rw [e] at z; cases z
        · exact z
      rw [lexLt_D x y _ _ h1 e, eqL, ltL, e]
      simp
end
/-- the order of all data -/
def ltT (x y : D) : Bool := HT.lexLt (encD x) (encD y)
theorem ltT_refl (p : List Int) : HT.lexLt p p = false := by
  have := lexLt_pre p [] []
  rw [List.append_nil] at this
  rw [this]; rfl
mutual
theorem ltD_refl : ∀ x y : D, eqD x y = true → ltD x y = false
  | .tup xs, y, h => by
    cases y with
    | tup ys => rw [eqD] at h; rw [ltD]; exact ltL_refl xs ys h
    | _ => simp [eqD] at h
  | .int i, y, h => by cases y <;> simp_all [eqD, ltD]
  | .str s, y, h => by
    cases y with
    | str t =>
      have : s = t := by simpa [eqD] using h
      subst this
      rw [ltD]
      have : ∀ a : List Nat, ltS a a = false := fun a => by
        induction a with
        | nil => rfl
        | cons x xs ih => unfold ltS; rw [if_neg (Nat.lt_irrefl x), if_neg (Nat.lt_irrefl x)]; exact ih
      exact this s
    | _ => simp [eqD] at h
  | .non, y, h => by cases y <;> simp [ltD]
  | .bl _, y, h => by cases y <;> simp [ltD]
  | .lst _, y, h => by cases y <;> simp [ltD]
  | .dct _ _, y, h => by cases y <;> simp [ltD]
  | .obj _ _, y, h => by cases y <;> simp [ltD]
  | .clo _ _, y, h => by cases y <;> simp [ltD]
theorem ltL_refl : ∀ xs ys : List D, eqL xs ys = true → ltL xs ys = false
  | [], [], _ => rfl
  | [], _ :: _, h => by simp [eqL] at h
  | _ :: _, [], h => by simp [eqL] at h
  | x :: xs, y :: ys, h => by
    rw [eqL, Bool.and_eq_true] at h
    rw [ltL, if_pos h.1]
    exact ltL_refl xs ys h.2
end
theorem ltD_ltT {x y : D} (h : okLt x y = true) : ltD x y = ltT x y := by
  unfold ltT
  cases e : eqD x y with
  | false =>
    have := lexLt_D x y [] [] h e
    rw [List.append_nil, List.append_nil] at this
    exact this.symm
  | true => rw [encD_eq x y e, ltT_refl, ltD_refl x y e]
/-! ### the sort is the stable one -/
theorem swoT : SrtO.Swo ltT := ⟨fun x y h => NtL.lex_asym _ _ h, fun x y z h1 h2 => NtL.lex_tr _ _ _ h1 h2⟩
def insT (x : D) : List D → List D
  | [] => [x]
  | y :: ys => if ltT y x then y :: insT x ys else x :: y :: ys
def sortT : List D → List D
  | [] => []
  | x :: xs => insT x (sortT xs)
theorem insT_ok (x : D) : ∀ l : List D, SrtO.Srtd ltT l → SrtO.Srtd ltT (insT x l) ∧ SrtO.Stb ltT (insT x l) (x :: l)
  | [], h => ⟨SrtO.srtd_one x, .refl _⟩
  | y :: ys, h => by
    unfold insT
    cases e : ltT y x with
    | false =>
      rw [if_neg Bool.false_ne_true]
      refine ⟨List.pairwise_cons.mpr ⟨fun z hz => ?_, h⟩, .refl _⟩
      exact swoT.le_all h e z hz
    | true =>
      rw [if_pos rfl]
      obtain ⟨h1, h2⟩ := insT_ok x ys (List.pairwise_cons.mp h).2
      refine ⟨List.pairwise_cons.mpr ⟨fun z hz => ?_, h1⟩, ?_⟩
      · rcases List.mem_cons.mp (h2.perm.mem_iff.mp hz) with w | w
        · rw [w]; exact swoT.asym y x e
        · exact (List.pairwise_cons.mp h).1 z w
      · have a : SrtO.Stb ltT ([y] ++ insT x ys) ([y] ++ (x :: ys)) := (SrtO.Stb.refl [y]).app h2
        have b : SrtO.Stb ltT ([y] ++ [x]) ([x] ++ [y]) := SrtO.Stb.swap swoT fun a ha b hb => by
          rw [List.mem_singleton.mp ha, List.mem_singleton.mp hb]; exact e
        exact a.trans (b.app (SrtO.Stb.refl ys))
theorem sortT_ok : ∀ l : List D, SrtO.Srtd ltT (sortT l) ∧ SrtO.Stb ltT (sortT l) l
  | [] => ⟨List.Pairwise.nil, .refl _⟩
  | x :: xs => by
    obtain ⟨h1, h2⟩ := sortT_ok xs
    obtain ⟨h3, h4⟩ := insT_ok x (sortT xs) h1
    exact ⟨h3, h4.trans ((SrtO.Stb.refl [x]).app h2)⟩
theorem ins_same (x : D) : ∀ l : List D, (∀ y ∈ l, okLt y x = true) → sortD.insRev x l = insT x l
  | [], _ => rfl
  | y :: ys, h => by
    unfold sortD.insRev insT
    rw [ltD_ltT (h y List.mem_cons_self), ins_same x ys fun z hz => h z (List.mem_cons_of_mem _ hz)]
theorem sort_same : ∀ l : List D, (∀ x ∈ l, ∀ y ∈ l, okLt x y = true) → sortD l = sortT l
  | [], _ => rfl
  | x :: xs, h => by
    have ih := sort_same xs fun a ha b hb => h a (List.mem_cons_of_mem _ ha) b (List.mem_cons_of_mem _ hb)
    unfold sortD sortT
    rw [ih]
    refine ins_same x _ fun y hy => h y ?_ x List.mem_cons_self
    exact List.mem_cons_of_mem _ ((sortT_ok xs).2.perm.mem_iff.mp hy)

/-! ### a value has one reading -/
section
variable {K : PySem.W.Frag} {R : Addr → Prop} {H : Hp}
theorem Rd.uniq {a : Addr} {u w : HO} (h1 : Rd H a u) (h2 : Rd H a w) (hu : ∀ o x, u ≠ .frz o x) (hw : ∀ o x, w ≠ .frz o x) : u = w := by
  rcases h1 with h1 | ⟨o1, h1⟩
  · rcases h2 with h2 | ⟨o2, h2⟩
    · rw [h1] at h2; exact Option.some.inj h2
    · rw [h1] at h2; cases h2; exact absurd rfl (hu _ _)
  · rcases h2 with h2 | ⟨o2, h2⟩
    · rw [h1] at h2; cases h2; exact absurd rfl (hw _ _)
    · rw [h1] at h2; cases h2; rfl
def vOf : Value → V
  | .none => .non
  | .bool b => .bl b
  | .int i _ => .int i
  | .str x _ => .str x
  | .bytes b _ => .byt b
  | .float b _ => .flt b
  | .ref a => .ref a
  | .type n => .ty n
  | _ => .non
theorem vOf_eq {x : V} {u : Value} (h : L2.RelV x u) : x = vOf u := by
  cases x with
  | non => cases (show u = _ from h); rfl
  | bl b => cases (show u = _ from h); rfl
  | int i => obtain ⟨t, rfl⟩ := h; rfl
  | str i => obtain ⟨t, rfl⟩ := h; rfl
  | byt i => obtain ⟨t, rfl⟩ := h; rfl
  | flt i => obtain ⟨t, rfl⟩ := h; rfl
  | ref a => cases (show u = _ from h); rfl
  | ty a => cases (show u = _ from h); rfl
theorem relU {x y : V} {u : Value} (h1 : L2.RelV x u) (h2 : L2.RelV y u) : x = y := (vOf_eq h1).trans (vOf_eq h2).symm
theorem valsU : ∀ {xs ys : List V} {us : List Value}, Vals xs us → Vals ys us → xs = ys
  | _, _, _, .nil, .nil => rfl
  | _, _, _, .cons r t, .cons q s => by rw [valsU t s, relU r q]
mutual
theorem Rep.uniq (kf : KF K H) : ∀ {d d' : D} {v : V}, Rep K R H d v → Rep K R H d' v → d = d'
  | _, _, _, .non, .non => rfl
  | _, _, _, .bl _, .bl _ => rfl
  | _, _, _, .int _, .int _ => rfl
  | .str s, d', _, .str _ _, h => by
    generalize hv : V.str (mkS s) = v at h
    cases h with
    | str t _ => cases hv; rfl
    | _ => cases hv
  | .tup ds, d', .ref a, .tup (vs := vs) h t _, h2 => by
    cases h2 with
    | @tup _ vs' ds' h' t' _ =>
      have : vs = vs' := by
        rcases h with ⟨h, _⟩ | ⟨o, its, n, h1, h2, h3, h4, h5⟩
        · rcases h' with ⟨h', _⟩ | ⟨o, _, _, h', _⟩
          · have := Rd.uniq h h' (fun _ _ z => by cases z) (fun _ _ z => by cases z)
            cases this; rfl
          · rcases h with h | ⟨o2, h⟩
            · rw [kf a o h'] at h; cases h
            · rw [kf a o h'] at h; cases h
        · rcases h' with ⟨h', _⟩ | ⟨o', its', n', g1, g2, g3, g4, g5⟩
          · rcases h' with h' | ⟨o2, h'⟩
            · rw [kf a o h1] at h'; cases h'
            · rw [kf a o h1] at h'; cases h'
          · rw [h1] at g1; cases g1
            rw [h3] at g3; cases g3
            exact valsU h5 g5
      subst this
      rw [RepL.uniq kf t t']
    | @lst _ vs' ds' h' t' _ =>
      exfalso
      rcases h with ⟨h, _⟩ | ⟨o, its, n, h1, h2, h3, h4, h5⟩
      · rcases h' with ⟨h', _⟩ | ⟨o, _, _, h', _⟩
        · have := Rd.uniq h h' (fun _ _ z => by cases z) (fun _ _ z => by cases z)
          cases this
        · rcases h with h | ⟨o2, h⟩
          · rw [kf a o h'] at h; cases h
          · rw [kf a o h'] at h; cases h
      · rcases h' with ⟨h', _⟩ | ⟨o', its', n', g1, g2, g3, g4, g5⟩
        · rcases h' with h' | ⟨o2, h'⟩
          · rw [kf a o h1] at h'; cases h'
          · rw [kf a o h1] at h'; cases h'
        · rw [h1] at g1; cases g1
          rw [h2] at g2; exact absurd g2 (by decide)
  | .lst ds, d', .ref a, .lst (vs := vs) h t _, h2 => by
    cases h2 with
    | @lst _ vs' ds' h' t' _ =>
      have : vs = vs' := by
        rcases h with ⟨h, _⟩ | ⟨o, its, n, h1, h2, h3, h4, h5, h6⟩
        · rcases h' with ⟨h', _⟩ | ⟨o, _, _, h', _⟩
          · have := Rd.uniq h h' (fun _ _ z => by cases z) (fun _ _ z => by cases z)
            cases this; rfl
          · rcases h with h | ⟨o2, h⟩
            · rw [kf a o h'] at h; cases h
            · rw [kf a o h'] at h; cases h
        · rcases h' with ⟨h', _⟩ | ⟨o', its', n', g1, g2, g3, g4, g5, g6⟩
          · rcases h' with h' | ⟨o2, h'⟩
            · rw [kf a o h1] at h'; cases h'
            · rw [kf a o h1] at h'; cases h'
          · rw [h1] at g1; cases g1
            rw [h4] at g4; cases g4
            exact valsU h6 g6
      subst this
      rw [RepL.uniq kf t t']
    | @tup _ vs' ds' h' t' _ =>
      exfalso
      rcases h with ⟨h, _⟩ | ⟨o, its, n, h1, h2, h3, h4, h5, h6⟩
      · rcases h' with ⟨h', _⟩ | ⟨o, _, _, h', _⟩
        · have := Rd.uniq h h' (fun _ _ z => by cases z) (fun _ _ z => by cases z)
          cases this
        · rcases h with h | ⟨o2, h⟩
          · rw [kf a o h'] at h; cases h
          · rw [kf a o h'] at h; cases h
      · rcases h' with ⟨h', _⟩ | ⟨o', its', n', g1, g2, g3, g4, g5⟩
        · rcases h' with h' | ⟨o2, h'⟩
          · rw [kf a o h1] at h'; cases h'
          · rw [kf a o h1] at h'; cases h'
        · rw [h1] at g1; cases g1
          rw [h2] at g2; exact absurd g2 (by decide)
theorem RepL.uniq (kf : KF K H) : ∀ {ds ds' : List D} {vs : List V}, RepL K R H ds vs → RepL K R H ds' vs → ds = ds'
  | _, _, _, .nil, .nil => rfl
  | _, _, _, .cons r t, .cons q s => by rw [Rep.uniq kf r q, RepL.uniq kf t s]
end
end
end Ev
end -- EvSort

section -- EvSort2
set_option Elab.async false
set_option linter.all false
set_option maxRecDepth 100000
set_option maxHeartbeats 1000000
/-! EvSort2: the rule of sorted(..). -/
namespace Ev
open PySem PySem.Spec PyProof.Rows L2
section
variable {X : Cx} {pins : List (Addr × Obj)} {σ : L2.St} {H : Hp} {s : Shared} {R : Addr → Prop} {A : Around} {d : D} {v : V} {u : Value}
theorem Rep.isInt (r : Rep X.K R H d v) (h : isIntD d = true) (rv : L2.RelV v u) : ∃ i t, d = .int i ∧ u = .int i t := by
  cases r with
  | int i => obtain ⟨t, rfl⟩ := rv; exact ⟨i, t, rfl, rfl⟩
  | _ => cases h
theorem Rep.isStr (r : Rep X.K R H d v) (h : isStrD d = true) (rv : L2.RelV v u) : ∃ i t, d = .str i ∧ u = .str (mkS i) t := by
  cases r with
  | str i _ => obtain ⟨t, rfl⟩ := rv; exact ⟨i, t, rfl, rfl⟩
  | _ => cases h
theorem Rep.isTup (I : Inv X pins σ H s) {ds : List D} (r : Rep X.K R H (.tup ds) v) (rv : L2.RelV v u) : ∃ a vs us o n, u = .ref a ∧ RepL X.K R H ds vs ∧ Vals vs us ∧ s.heap.get? a = some o ∧ o.cls = .type "tuple" ∧ o.data = .seq us.toArray n := by
  cases r with
  | @tup a vs _ h t z =>
    obtain rfl : u = Value.ref a := rv
    obtain ⟨us, rv, ⟨o, ho, hc, n, hd⟩, _⟩ := I.tuple h.sq
    exact ⟨a, vs, us, o, n, rfl, t, rv, ho, hc, hd⟩
theorem tyInt {M : Model} {h : Heap} (i : Int) (t : Tok) : PySem.W.Looks M h (typeOf (.int i t)) (.type "int") := PySem.W.Looks.of_pure rfl
theorem tyStr {M : Model} {h : Heap} (x : Str) (t : Tok) : PySem.W.Looks M h (typeOf (.str x t)) (.type "str") := PySem.W.Looks.of_pure rfl
theorem tyTup {M : Model} {h : Heap} {a : Addr} {o : Obj} (ho : h.get? a = some o) (hc : o.cls = .type "tuple") : PySem.W.Looks M h (typeOf (.ref a)) (.type "tuple") := by
  have : PySem.W.Looks M h (typeOf (.ref a)) o.cls := (PySem.W.Looks.ld ho).andThen .now
  rw [hc] at this; exact this
/-- tuples, item by item -/
theorem kat_data (I : Inv X pins σ H s) {b : Bool} {Q : Bool → Shared → Prop} : ∀ (xs ys : List D) (vx vy : List V) (ux uy : List Value) (i : Nat), RepL X.K R H xs vx → RepL X.K R H ys vy → Vals vx ux → Vals vy uy → okLtL xs ys = true → A.units + min (depthL xs) (depthL ys) < cLine →
    (b = true → i = 0 → ∀ x y, xs.head? = some x → ys.head? = some y → (isIntD x = true ∧ isIntD y = true) ∨ (isStrD x = true ∧ isStrD y = true)) → Q (ltL xs ys) s →
    PySem.W.KatLex X.prog X.w A b (decide (xs.length < ys.length)) Q (ux.zip uy) i s
  | [], [], _, _, _, _, i, .nil, .nil, .nil, .nil, _, _, _, q => by
    refine PySem.W.kat_nil ?_
    exact q
  | [], y :: ys, _, _, _, _, i, .nil, .cons _ _, .nil, .cons _ _, _, _, _, q => by
    refine PySem.W.kat_nil ?_
    exact q
  | x :: xs, [], _, _, _, _, i, .cons _ _, .nil, .cons _ _, .nil, _, _, _, q => by
    refine PySem.W.kat_nil ?_
    exact q
  | x :: xs, y :: ys, _, _, _, _, i, .cons r t, .cons r' t', .cons rv tv, .cons rv' tv', ok, hu, hb, q => by
    simp only [okLtL, Bool.and_eq_true, Bool.or_eq_true] at ok
    simp only [depthL] at hu
    have e : decide ((x :: xs).length < (y :: ys).length) = decide (xs.length < ys.length) := decide_eq_decide.mpr (by simp)
    rw [e]
    refine PySem.W.kat_cons (Rep.eqAt I r r' rv rv' ok.1.1 (by omega) _ _ _ _ ?_)
    rw [ltL] at q
    refine PySem.W.kat_go (fun e1 => ?_) (fun e1 => ?_)
    · rw [e1, if_pos rfl] at q
      exact PySem.W.kat_yes (kat_data I xs ys _ _ _ _ (i + 1) t t' tv tv' ok.2 (by omega) (fun _ z => absurd z (Nat.succ_ne_zero i)) q)
    · rw [e1, if_neg Bool.false_ne_true] at q
      have ok1 : okLt x y = true := by
        rcases ok.1.2 with z | z
        · rw [e1] at z; cases z
        · exact z
      refine PySem.W.kat_no ?_
      cases ef : (b && i == 0) with
      | false => exact PySem.W.kat_one _ _ (ltAt I _ x y _ _ _ _ A (Nat.le_refl _) r r' rv rv' ok1 (by omega) _ _ _ _ (show PySem.W.BoolBack Q (.bool (ltD x y)) s from q))
      | true =>
        rw [Bool.and_eq_true, beq_iff_eq] at ef
        rcases hb ef.1 ef.2 x y rfl rfl with ⟨h1, h2⟩ | ⟨h1, h2⟩
        · obtain ⟨a, t, rfl, rfl⟩ := r.isInt h1 rv
          obtain ⟨c, t', rfl, rfl⟩ := r'.isInt h2 rv'
          rw [ltD] at q
          exact oneLt_int q
        · obtain ⟨a, t, rfl, rfl⟩ := r.isStr h1 rv
          obtain ⟨c, t', rfl, rfl⟩ := r'.isStr h2 rv'
          rw [ltD, ltS_eq] at q
          exact oneLt_str q
/-- what the values mean -/
def Means (K : PySem.W.Frag) (R : Addr → Prop) (H : Hp) (k : Value → D) (us : List Value) : Prop := ∀ u ∈ us, ∃ v, L2.RelV v u ∧ Rep K R H (k u) v
theorem means_of {K : PySem.W.Frag} (kf : KF K H) : ∀ {ds : List D} {vs : List V} {us : List Value}, RepL K R H ds vs → Vals vs us → ∃ k : Value → D, us.map k = ds ∧ Means K R H k us := by
  classical
  intro ds vs us rl rv
  refine ⟨fun u => if h : ∃ d, ∃ v, L2.RelV v u ∧ Rep K R H d v then Classical.choose h else .non, ?_, ?_⟩
  · induction ds generalizing vs us with
    | nil => cases rl; cases rv; rfl
    | cons d ds ih =>
      cases rl with
      | cons r t =>
      cases rv with
      | cons q s =>
        rename_i v _ u _
        rw [List.map_cons, ih t s]
        have hx : ∃ d, ∃ v, L2.RelV v u ∧ Rep K R H d v := ⟨d, v, q, r⟩
        obtain ⟨v', q', r'⟩ := Classical.choose_spec hx
        rw [dif_pos hx]
        have := relU q' q
        subst this
        rw [Rep.uniq kf r' r]
  · induction ds generalizing vs us with
    | nil => cases rl; cases rv; exact fun u hu => absurd hu (by simp)
    | cons d ds ih =>
      cases rl with
      | cons r t =>
      cases rv with
      | cons q s =>
        intro u hu
        rcases List.mem_cons.mp hu with e | hu
        · subst e
          have hx : ∃ d, ∃ v, L2.RelV v u ∧ Rep K R H d v := ⟨_, _, q, r⟩
          show ∃ v, L2.RelV v u ∧ Rep K R H (if h : ∃ d, ∃ v, L2.RelV v u ∧ Rep K R H d v then Classical.choose h else .non) v
          rw [dif_pos hx]
          exact Classical.choose_spec hx
        · exact ih t s u hu
theorem Means.list {K : PySem.W.Frag} {k : Value → D} : ∀ {us : List Value}, Means K R H k us → ∃ vs, Vals vs us ∧ RepL K R H (us.map k) vs
  | [], _ => ⟨[], .nil, .nil⟩
  | u :: us, h => by
    obtain ⟨v, q, r⟩ := h u List.mem_cons_self
    obtain ⟨vs, qs, rs⟩ := Means.list (us := us) fun w hw => h w (List.mem_cons_of_mem _ hw)
    exact ⟨v :: vs, .cons q qs, .cons r rs⟩
theorem headIs_of {p : D → Bool} {d : D} (h : headIs p d = true) : ∃ x xs, d = .tup (x :: xs) ∧ p x = true := by
  cases d with
  | tup xs =>
    cases xs with
    | nil => cases h
    | cons x xs => exact ⟨x, xs, rfl, h⟩
  | _ => cases h
/-- all can be told apart -/
theorem data_sortable {h₁ : Heap} {a : Addr} {us : List Value} {k : Value → D} (I : Inv X pins σ H s) (kp : ∀ b o, s.heap.get? b = some o → b ≠ a ∧ h₁.get? b = some o) (h2 : 2 ≤ us.length) (m : Means X.K R H k us) (ok : sortable (us.map k) = true) (hu : A.units + 101 < cLine) :
    SrtO.SortableO X.prog X.w A { s with heap := h₁ } a us (fun v w => ltT (k v) (k w)) := by
  intro h' keep
  have I' : Inv X pins σ H { s with heap := h' } := I.kept (t' := s.toks) fun b o e => keep b o (kp b o e).1 (kp b o e).2
  unfold sortable at ok
  simp only [Bool.and_eq_true, List.all_eq_true, decide_eq_true_eq, Bool.or_eq_true, List.mem_map] at ok
  obtain ⟨ok1, ok2⟩ := ok
  have pair : ∀ v ∈ us, ∀ w ∈ us, okLt (k v) (k w) = true := fun v hv w hw => (ok1 (k v) ⟨v, hv, rfl⟩).2 (k w) ⟨w, hw, rfl⟩
  have dep : ∀ v ∈ us, depthD (k v) ≤ 100 := fun v hv => (ok1 (k v) ⟨v, hv, rfl⟩).1
  have one : ∀ T : Value, (∀ v ∈ us, PySem.W.Looks (model X.prog X.w) h' (typeOf v) T) → (T != Value.type "tuple") = true → (T == T) = true → (∀ v ∈ us, ∀ w ∈ us, ∀ (Q : Bool → Shared → Prop) (E : Value → Shared → Prop), Q (ltT (k v) (k w)) { s with heap := h' } → wpAny (model X.prog X.w) A (oneLt' true v w) Q E { s with heap := h' }) →
      ∃ κ, (∀ (Q : SortKind → Shared → Prop) (E : Value → Shared → Prop), Q κ { s with heap := h' } → wpAny (model X.prog X.w) A (keyKind' us.toArray) Q E { s with heap := h' }) ∧ SrtO.Cmp X.prog X.w A { s with heap := h' } κ (fun p => p.1 ∈ us) (SrtO.lt2 fun v w => ltT (k v) (k w)) := fun T hT hT1 hT2 hc =>
    ⟨oneType', fun Q E q => PySem.W.kas_kind h2 hT hT1 hT2 q, fun p q hp hq => hc _ hp _ hq _ _ ⟨rfl, rfl⟩⟩
  have tups : ∀ (p : D → Bool) (T : Value), (∀ v ∈ us, headIs p (k v) = true) → (∀ (d : D) (v : V) (u : Value), Rep X.K R H d v → p d = true → L2.RelV v u → PySem.W.Looks (model X.prog X.w) h' (typeOf u) T) → (T == T) = true →
      ((T != Value.type "tuple") = true → ∀ x y, p x = true → p y = true → (isIntD x = true ∧ isIntD y = true) ∨ (isStrD x = true ∧ isStrD y = true)) →
      ∃ κ, (∀ (Q : SortKind → Shared → Prop) (E : Value → Shared → Prop), Q κ { s with heap := h' } → wpAny (model X.prog X.w) A (keyKind' us.toArray) Q E { s with heap := h' }) ∧ SrtO.Cmp X.prog X.w A { s with heap := h' } κ (fun p => p.1 ∈ us) (SrtO.lt2 fun v w => ltT (k v) (k w)) := fun p T hp hT hT2 hk => by
    have fs : ∀ (ws : List Value), (∀ v ∈ ws, v ∈ us) → ∃ fs, PySem.W.KatTups h' ws fs ∧ fs.length = ws.length ∧ ∀ f ∈ fs, PySem.W.Looks (model X.prog X.w) h' (typeOf f) T := fun ws => by
      induction ws with
      | nil => exact fun _ => ⟨[], PySem.W.KatTups.nil, rfl, fun f hf => absurd hf (by simp)⟩
      | cons w ws ih =>
        intro hw
        obtain ⟨fs, f1, f2, f3⟩ := ih fun v hv => hw v (List.mem_cons_of_mem _ hv)
        obtain ⟨v, rv, r⟩ := m w (hw w List.mem_cons_self)
        obtain ⟨x, xs, ex, px⟩ := headIs_of (hp w (hw w List.mem_cons_self))
        rw [ex] at r
        obtain ⟨b, vs, bs, o, n, rfl, t, rb, ho, hc, hd⟩ := Rep.isTup I' r rv
        cases t with
        | cons rx tx =>
          cases rb with
          | cons qx sx =>
            rename_i ux uxs
            refine ⟨ux :: fs, PySem.W.KatTups.cons ho hc hd (by simp) f1, by simp [f2], fun f hf => ?_⟩
            rcases List.mem_cons.mp hf with e | hf
            · rw [e]; exact hT x _ ux rx px qx
            · exact f3 f hf
    obtain ⟨fs, f1, f2, f3⟩ := fs us fun _ h => h
    refine ⟨tuples' (T != Value.type "tuple"), fun Q E q => PySem.W.kat_kind f1 (by omega) f3 hT2 q, fun pp qq hpp hqq => ?_⟩
    obtain ⟨v, rv, r⟩ := m _ hpp
    obtain ⟨w, rw', r'⟩ := m _ hqq
    obtain ⟨x, xs, ex, px⟩ := headIs_of (hp _ hpp)
    obtain ⟨y, ys, ey, py⟩ := headIs_of (hp _ hqq)
    have okp := pair _ hpp _ hqq
    have dp := dep _ hpp
    have e3 : ltL (x :: xs) (y :: ys) = ltT (k pp.1) (k qq.1) := by rw [← ltD_ltT okp, ex, ey, ltD]
    show wpAny (model X.prog X.w) A (keyLt' (tuples' (T != Value.type "tuple")) pp.1 qq.1) (fun r s' => s' = { s with heap := h' } ∧ r = ltT (k pp.1) (k qq.1)) (fun _ _ => False) { s with heap := h' }
    rw [ex, ey] at okp
    rw [ex] at r dp
    rw [ey] at r'
    rw [okLt] at okp
    obtain ⟨b, vs, bs, o, n, e1, t, rb, ho, hc, hd⟩ := Rep.isTup I' r rv
    obtain ⟨b', vs', bs', o', n', e2, t', rb', ho', hc', hd'⟩ := Rep.isTup I' r' rw'
    rw [e1, e2] at e3 ⊢
    refine PySem.W.kat_lt ho hd ho' hd' ?_
    have l1 : bs.toArray.size = (x :: xs).length := by rw [List.size_toArray, ← rb.length, t.length]
    have l2 : bs'.toArray.size = (y :: ys).length := by rw [List.size_toArray, ← rb'.length, t'.length]
    rw [l1, l2]
    simp only [depthD] at dp
    refine kat_data I' (x :: xs) (y :: ys) vs vs' bs bs' 0 t t' rb rb' okp (by omega) (fun hb _ x' y' hx' hy' => ?_) ⟨rfl, e3⟩
    cases hx'; cases hy'
    exact hk hb x y px py
  rcases ok2 with (((ok2 | ok2) | ok2) | ok2) | ok2
  · refine one (.type "int") (fun v hv => ?_) (by decide +kernel) (by decide +kernel) fun v hv w hw Q E q => ?_
    · obtain ⟨x, rx, r⟩ := m v hv
      obtain ⟨i, t, _, rfl⟩ := r.isInt (ok2 _ ⟨v, hv, rfl⟩) rx
      exact tyInt i t
    · have e := ltD_ltT (pair v hv w hw)
      obtain ⟨x, rx, r⟩ := m v hv
      obtain ⟨y, ry, r'⟩ := m w hw
      obtain ⟨i, t, e1, e2⟩ := r.isInt (ok2 _ ⟨v, hv, rfl⟩) rx
      obtain ⟨j, t', e3, e4⟩ := r'.isInt (ok2 _ ⟨w, hw, rfl⟩) ry
      rw [← e, e1, e3, ltD] at q
      rw [e2, e4]
      exact oneLt_int q
  · refine one (.type "str") (fun v hv => ?_) (by decide +kernel) (by decide +kernel) fun v hv w hw Q E q => ?_
    · obtain ⟨x, rx, r⟩ := m v hv
      obtain ⟨i, t, _, rfl⟩ := r.isStr (ok2 _ ⟨v, hv, rfl⟩) rx
      exact tyStr _ t
    · have e := ltD_ltT (pair v hv w hw)
      obtain ⟨x, rx, r⟩ := m v hv
      obtain ⟨y, ry, r'⟩ := m w hw
      obtain ⟨i, t, e1, e2⟩ := r.isStr (ok2 _ ⟨v, hv, rfl⟩) rx
      obtain ⟨j, t', e3, e4⟩ := r'.isStr (ok2 _ ⟨w, hw, rfl⟩) ry
      rw [← e, e1, e3, ltD, ltS_eq] at q
      rw [e2, e4]
      exact oneLt_str q
  · refine tups isIntD (.type "int") (fun v hv => ok2 _ ⟨v, hv, rfl⟩) (fun d v u r hp rv => ?_) (by decide +kernel) fun _ x y h1 h2 => .inl ⟨h1, h2⟩
    obtain ⟨i, t, _, rfl⟩ := r.isInt hp rv
    exact tyInt i t
  · refine tups isStrD (.type "str") (fun v hv => ok2 _ ⟨v, hv, rfl⟩) (fun d v u r hp rv => ?_) (by decide +kernel) fun _ x y h1 h2 => .inr ⟨h1, h2⟩
    obtain ⟨i, t, _, rfl⟩ := r.isStr hp rv
    exact tyStr _ t
  · refine tups isTupD (.type "tuple") (fun v hv => ok2 _ ⟨v, hv, rfl⟩) (fun d v u r hp rv => ?_) (by decide +kernel) fun h => absurd h (by decide +kernel)
    cases d with
    | tup ds =>
      obtain ⟨a, vs, us, o, n, rfl, _, _, ho, hc, _⟩ := Rep.isTup I' r rv
      exact tyTup ho hc
    | _ => cases hp
/-- a sorted row means the sorted data -/
theorem sorted_means {us out : List Value} {k : Value → D} {xs : List D} (e : us.map k = xs) (ok : sortable xs = true) (h1 : SrtO.Srtd (fun v w => ltT (k v) (k w)) out) (h2 : SrtO.Stb (fun v w => ltT (k v) (k w)) out us) : out.map k = sortD xs := by
  have a1 : SrtO.Srtd ltT (out.map k) := SrtO.srtd_map h1
  have a2 : SrtO.Stb ltT (out.map k) (us.map k) := SrtO.Stb.map swoT k h2
  rw [e] at a2
  have b := sortT_ok xs
  have : sortD xs = sortT xs := by
    refine sort_same xs fun x hx y hy => ?_
    unfold sortable at ok
    simp only [Bool.and_eq_true, List.all_eq_true] at ok
    exact (ok.1 x hx).2 y hy
  rw [this]
  exact SrtO.stb_uniq swoT a1 b.1 (a2.trans ⟨b.2.perm.symm, fun x => (b.2.cls x).symm⟩)
end
/-- a tuple's items, as a new list -/
theorem collect_tup {prog : Program} {w : World} {A : Around} {E : Value → Shared → Prop} {s : Shared} {l : Addr} {vs : List Value} {Q : List Value → Shared → Prop} (hl : IsTup s.heap l vs.toArray)
    (h : Q vs { s with heap := (s.heap.push (seqObj "list" #[] 0)).update s.heap.objs.size (Obj.mapSeq (· ++ vs.toArray)) }) (hsz : vs.length ≤ sizeLine) : wpAny (model prog w) A (collect (.ref l)) Q E s := by
  obtain ⟨o, ho, hc, n, hd⟩ := hl
  unfold collect
  refine wpAny_bind (wpAny_runValue (codeAny_builtin PySem.F.entry_proto_collect ?_))
  rw [Around.under_plainId PySem.F.plain_proto_collect _]
  show wpAny _ _ (do again (.builtin "list.__iadd__" ⟨[← newList [], .ref l], []⟩)) _ _ s
  refine wpAny_bind (wpAny_newList (wpAny_pure ⟨plainId_quiet PySem.F.plain_list_iadd _, codeAny_builtin PySem.F.entry_list_iadd ?_⟩))
  rw [Around.under_plainId PySem.F.plain_list_iadd _]
  show wpAny _ _ (Builtin.List.listExtendWith (.ref s.heap.objs.size) (.ref l) (.ref s.heap.objs.size)) _ _ { s with heap := s.heap.push (seqObj "list" #[] 0) }
  unfold Builtin.List.listExtendWith
  have h1 : (s.heap.push (seqObj "list" #[] 0)).get? l = some o := Heap.get?_push_of_some _ ho
  have h2 : (s.heap.push (seqObj "list" #[] 0)).get? s.heap.objs.size = some (seqObj "list" #[] 0) := Heap.get?_push_size _ rfl
  refine wpAny_bind (wpAny_typeOf (T := "tuple") ⟨o, h1, hc⟩ ?_)
  have ht : (Value.type "tuple" == Value.type "tuple") = true := by rfl
  rw [if_pos (by rw [ht]; simp)]
  refine wpAny_bind (listItems_at h1 hd (wpAny_bind (listItems_at (xs := #[]) (n := 0) h2 rfl ?_)))
  rw [if_neg (by simp)]
  refine wpAny_bind (listUpdate_at (xs := #[]) (n := 0) h2 rfl ?_ (Nat.zero_le _) (by show (#[] ++ vs.toArray).size ≤ sizeLine + 1; simp only [Array.size_append, List.size_toArray, List.length_nil]; omega))
  refine wpAny_pure ?_
  show wpAny (model prog w) A (do
      let o ← load s.heap.objs.size
      match o.data with
      | .seq xs _ => pure xs.toList
      | _ => unsupported "internal:collect") Q E { s with heap := (s.heap.push (seqObj "list" #[] 0)).update s.heap.objs.size (Obj.mapSeq (· ++ vs.toArray)) }
  refine wpAny_bind (wpAny_load (get?_update_seq h2 _) ?_)
  show wpAny _ _ (pure ((#[] : Array Value) ++ vs.toArray).toList) Q E _
  rw [show ((#[] : Array Value) ++ vs.toArray).toList = vs by simp]
  exact wpAny_pure h
theorem sorted_tup {prog : Program} {w : World} {A : Around} {E : Value → Shared → Prop} {s : Shared} {l : Addr} {vs : List Value} {ltv : Value → Value → Bool} {Q : Value → Shared → Prop} (O : SrtO.Swo ltv) (hl : IsTup s.heap l vs.toArray) (hz : vs.length ≤ sizeLine)
    (hS : 2 ≤ vs.length → ∀ (h₁ : Heap) (a : Addr), h₁.get? a = some (seqObj "list" vs.toArray 0) → (∀ b o, s.heap.get? b = some o → b ≠ a ∧ h₁.get? b = some o) → SrtO.SortableO prog w A.in1.in1 { s with heap := h₁ } a vs ltv)
    (h : ∀ out : List Value, SrtO.Srtd ltv out → SrtO.Stb ltv out vs → Q (.ref (s.heap.objs.size + 1)) { s with heap := sortedAll s.heap vs out.toArray }) :
    wpAny (model prog w) A (call (.builtin "sorted") [.ref l]) Q E s := by
  refine Calls.call_function_entry kind_sorted plain_sorted entry_sorted (args_sorted1 _) ?_
  unfold Builtin.«sorted»
  refine wpAny_bind (m := checkCount "sorted" 1 1 _) (wpAny_pure (wpAny_bind (collect_tup hl ?_ hz)))
  refine wpAny_bind (wpAny_newList ?_ hz)
  have hsz : ((s.heap.push (seqObj "list" #[] 0)).update s.heap.objs.size (Obj.mapSeq (· ++ vs.toArray))).objs.size = s.heap.objs.size + 1 := by
    rw [Heap.size_update]; exact Heap.size_push ..
  have new : (((s.heap.push (seqObj "list" #[] 0)).update s.heap.objs.size (Obj.mapSeq (· ++ vs.toArray))).push (seqObj "list" vs.toArray 0)).get? (s.heap.objs.size + 1) = some (seqObj "list" vs.toArray 0) := by
    rw [← hsz]; exact Heap.get?_push_size _ rfl
  have keep : ∀ b o, s.heap.get? b = some o → b ≠ s.heap.objs.size + 1 ∧ (((s.heap.push (seqObj "list" #[] 0)).update s.heap.objs.size (Obj.mapSeq (· ++ vs.toArray))).push (seqObj "list" vs.toArray 0)).get? b = some o := fun b o q => by
    have lt : b < s.heap.objs.size := Heap.lt_size q
    refine ⟨Nat.ne_of_lt (Nat.lt_succ_of_lt lt), Heap.get?_push_of_some _ ?_⟩
    rw [Heap.get?_update_ne _ _ _ _ (Nat.ne_of_lt lt)]
    exact Heap.get?_push_of_some _ q
  show wpAny _ _ _ _ _ { s with heap := ((s.heap.push (seqObj "list" #[] 0)).update s.heap.objs.size (Obj.mapSeq (· ++ vs.toArray))).push (seqObj "list" vs.toArray 0) }
  rw [hsz]
  refine wpAny_bind (wpAny_holding (wpAny_call_entry slot_list_sort ⟨_, new, rfl⟩ entry_list_sort (SrtO.list_sort_ord O new hz (fun h2 => hS h2 _ _ new keep) fun out hs hb => ⟨_, rfl, ?_⟩) (args_list_sort _)))
  exact wpAny_pure ⟨_, rfl, h out hs hb⟩
theorem cr_sortedD {X : Cx} (hu : X.A.units + 200 < cLine) : CallR X (.builtin "sorted") (rDs X.K (opB .sorted) true) := by
  intro pins s σ H xs us Q I r ⟨R, ds, d, hp, e, q⟩
  have fin : ∀ {a : Addr} {vs : List V} {its : List Value} {t : List D}, RepL X.K R H t vs → Vals vs its → vs.length ≤ sizeLine → t.length ≤ LIM → sortable t = true → (∀ z H', OpRes X.K R true H (.lst (sortD t)) z H' → Q z H') →
      (∀ (ltv : Value → Value → Bool), SrtO.Swo ltv → (2 ≤ its.length → ∀ (h₁ : Heap) (a : Addr), h₁.get? a = some (seqObj "list" its.toArray 0) → (∀ b o, s.heap.get? b = some o → b ≠ a ∧ h₁.get? b = some o) → SrtO.SortableO X.prog X.w X.A.in1.in1 { s with heap := h₁ } a its ltv) →
        (∀ out : List Value, SrtO.Srtd ltv out → SrtO.Stb ltv out its → EP X pins σ Q (.ref (s.heap.objs.size + 1)) { s with heap := sortedAll s.heap its out.toArray }) → wpAny (model X.prog X.w) X.A (call (.builtin "sorted") [.ref a]) (EP X pins σ Q) X.xe s) →
      wpAny (model X.prog X.w) X.A (call (.builtin "sorted") [.ref a]) (EP X pins σ Q) X.xe s := fun {a vs its t} rl rv hz hzD ok q k => by
    obtain ⟨kk, ek, m⟩ := means_of (Inv.kf I) rl rv
    have ok' : sortable (its.map kk) = true := by rw [ek]; exact ok
    refine k (fun v w => ltT (kk v) (kk w)) ⟨fun x y h => swoT.asym _ _ h, fun x y z h1 h2 => swoT.tr _ _ _ h1 h2⟩ (fun h2 h₁ a' _ kp => ?_) fun out h1 h2 => ?_
    · exact data_sortable I kp h2 m ok' (by rw [Around.in1_units, Around.in1_units]; omega)
    · have es := sorted_means ek ok h1 h2
      have m' : Means X.K R H kk out := fun u hu => m u (h2.perm.mem_iff.mp hu)
      obtain ⟨ws, qs, rs⟩ := m'.list
      rw [es] at rs
      obtain ⟨ep, he⟩ := PyProof.Rows.sortedAll_at s.heap its out.toArray
      have hl : ws.length = vs.length := by rw [qs.length, h2.perm.length_eq, rv.length]
      refine ⟨.ref _, upd H (s.heap.objs.size + 1) (.lst ws), I.laid (t' := s.toks) (fun _ _ => PyProof.Rows.sortedAll_old) (Nat.le_succ _) ⟨by rw [hl]; exact hz, out, ep, qs, he⟩, rfl, q _ _ (.lst (I.hok.fresh (Nat.le_succ _)) rs ?_)⟩
      rw [rs.length, hl, ← rl.length]; exact hzD
  match ds, hp, e with
  | [d0], hp, e =>
    obtain ⟨x, rfl, hb⟩ := pair1 hp
    cases d0 with
    | tup t =>
      replace e : (if sortable t then some (D.lst (sortD t)) else none) = some d := e
      by_cases ok : sortable t = true
      · rw [if_pos ok] at e
        cases e
        obtain ⟨p, vs, rfl, h1, t1, hz⟩ := hb.tup
        obtain ⟨its, rv, ht, hs⟩ := I.tuple h1
        obtain ⟨u, rfl, ru⟩ := vals1 r
        obtain rfl : u = Value.ref p := ru
        exact fin t1 rv hs hz ok q fun ltv O hS k => sorted_tup O ht (by rw [← rv.length]; exact hs) hS k
      · rw [if_neg ok] at e; cases e
    | lst t =>
      replace e : (if sortable t then some (D.lst (sortD t)) else none) = some d := e
      by_cases ok : sortable t = true
      · rw [if_pos ok] at e
        cases e
        obtain ⟨p, vs, rfl, h1, t1, hz⟩ := hb.lst
        obtain ⟨its, rv, ht, hs⟩ := I.list h1
        obtain ⟨u, rfl, ru⟩ := vals1 r
        obtain rfl : u = Value.ref p := ru
        exact fin t1 rv hs hz ok q fun ltv O hS k => SrtO.sorted_ord O ht.isList (by rw [← rv.length]; exact hs) hS k
      · rw [if_neg ok] at e; cases e
    | _ => cases e
  | [], hp, e => cases e
  | _ :: _ :: _, hp, e => cases e
end Ev
end -- EvSort2

section -- EvX
set_option Elab.async false
set_option linter.all false
set_option maxRecDepth 100000
set_option maxHeartbeats 1000000
/-! EvX: the expressions' rules. -/
namespace Ev
open PySem PySem.Spec PyProof.Rows L2

section
variable {X : Cx} {R0 : Addr → Prop} {M : List Mode} {xr : XR} {W : WX} {q qa qb qc : Bool} {fl fa fb fc : Fl} {σ : L2.St} {H H1 H2 H' : Hp} {ρ ρ1 ρ2 : Env} {d : D} {v : V} {Q : VK}
/-- an operator's result as a value -/
theorem OpRes.done {z : V} {fr : Bool} {K : PySem.W.Frag} (r : OpRes K (Rr R0 M ρ σ) fr H2 d z H') (m : Mv K R0 M σ q H ρ H2 ρ2) (env : EnvOk K R0 M σ H ρ) (hf : fl = .fresh → fr = true) (hb : fl ≠ .bor) (hk : KF K H') :
    Mv K R0 M σ q H ρ H' ρ2 ∧ VOk K (Rr R0 M ρ σ) fl H H' d z := by
  cases r with
  | old r h => exact ⟨m, VOk.of_rep r fun e => h (hf e)⟩
  | lst hp t z => exact ⟨m.new hp hk, VOk.newLst hb hp (m.was hp) (fun a ha => env.domR ha) t z⟩
  | tup hp t z => exact ⟨m.new hp hk, VOk.newTup hp (m.was hp) (fun a ha => env.domR ha) t z⟩
theorem OpRes.bl {K : PySem.W.Frag} {R : Addr → Prop} {fr b : Bool} {z : V} (r : OpRes K R fr H (.bl b) z H') : z = .bl b ∧ H' = H := by
  cases r with
  | old r h => cases r; exact ⟨rfl, rfl⟩
/-- the result of an operator, the wish behind it -/
theorem fin_op {o : Option D} {fr : Bool} (env : EnvOk X.K R0 M σ H ρ) (m : Mv X.K R0 M σ q H ρ H2 ρ2) (h : Rest X.K R0 M xr W q fl σ H ρ Q (lift o ρ2)) (hf : fl = .fresh → fr = true) (hb : fl ≠ .bor) :
    ∃ d, o = some d ∧ ∀ z H', OpRes X.K (Rr R0 M ρ σ) fr H2 d z H' → KF X.K H' → Q z H' := by
  obtain ⟨d, e, k⟩ := h.lift
  refine ⟨d, e, fun z H' r hk => ?_⟩
  obtain ⟨m', vo⟩ := r.done m env hf hb hk
  exact k z H' m' vo

/-! ### constants and names -/
theorem x_con {v : V} {e : Expr} (h : PE X e (tC v)) (r : ∀ R H, Rep X.K R H d v) (hm : fl = .fresh → isMut d = false) : PE X e (tO X.K R0 M xr W true fl fun ρ => .ok d ρ) := by
  refine PE.mono h fun σ H Q ⟨ρ, env, q⟩ => ?_
  exact q v H (.refl env) (VOk.of_rep (r _ _) hm)
theorem x_var {i : Nat} {e : Expr} (h : PE X e (tVar i)) (hm : md M i = .shr) : PE X e (tO X.K R0 M xr W true .shr fun ρ => lift (gv ρ i) ρ) := by
  refine PE.mono h fun σ H Q ⟨ρ, env, q⟩ => ?_
  obtain ⟨d, e, k⟩ := q.lift
  obtain ⟨v, hv, so⟩ := env.slot i d e
  rw [hm] at so
  exact ⟨v, hv, k v H (.refl env) so⟩
theorem x_bvar {i : Nat} {e : Expr} (h : PE X e (tVar i)) : PE X e (tO X.K R0 M xr W true .bor fun ρ => lift (gv ρ i) ρ) := by
  refine PE.mono h fun σ H Q ⟨ρ, env, q⟩ => ?_
  obtain ⟨d, e, k⟩ := q.lift
  obtain ⟨v, hv, so⟩ := env.slot i d e
  exact ⟨v, hv, k v H (.refl env) so.bor⟩
/-- another flavour -/
theorem x_weak {e : Expr} {g : Env → Out D} (h : PE X e (tO X.K R0 M xr W qa fa g)) (hf : fa ≠ .bor) (hq : q = true → qa = true) : PE X e (tO X.K R0 M xr W q .shr g) := by
  refine PE.mono h fun σ H Q ⟨ρ, env, r⟩ => ⟨ρ, env, ?_⟩
  cases e : g ρ with
  | ok d ρ' => rw [e] at r; exact fun v H' m vo => r v H' (m.weak hq) (vo.rep hf fun a ha => env.domR ha)
  | exc c p ρ' => rw [e] at r; exact r
  | stuck => rw [e] at r; exact r

/-! ### operators -/
theorem x_bin {ga gb : Env → Out D} {op : D → D → Option D} {a b : Expr} {po : Operator} {pos : Pos} {fr : Bool} (ho : OpR X (binaryOp po) (rD X.K op fr)) (ha : PE X a (tO X.K R0 M xr W qa fa ga)) (hb : PE X b (tO X.K R0 M xr W qb fb gb))
    (hq : fa = .bor → qb = true) (hf : fl = .fresh → fr = true) (hfl : fl ≠ .bor) : PE X (.BinOp a po b pos) (tO X.K R0 M xr W (qa && qb) fl fun ρ => (ga ρ).bind fun x ρ => (gb ρ).bind fun y ρ => lift (op x y) ρ) := by
  refine PE.monoK (pe_op ho ha hb) fun σ H Q ⟨ρ, env, h⟩ => ?_
  refine two env h hq fun da db ρ2 x y H1 H2 m v1 _ v2 _ r => ?_
  obtain ⟨d, e, k⟩ := fin_op (fr := fr) env m r hf hfl
  exact ⟨_, da, db, d, v1, v2.toBor, e, k⟩
theorem x_cmp {ga gb : Env → Out D} {op : D → D → Option D} {a b : Expr} {po : CmpOp} {pos : Pos} {fr : Bool} (ho : OpR X (compareOp po) (rD X.K op fr)) (ha : PE X a (tO X.K R0 M xr W qa fa ga)) (hb : PE X b (tO X.K R0 M xr W qb fb gb))
    (hq : fa = .bor → qb = true) (hf : fl = .fresh → fr = true) (hfl : fl ≠ .bor) (hm : behindInMarks po b = false) : PE X (.Compare a [po] [b] pos) (tO X.K R0 M xr W (qa && qb) fl fun ρ => (ga ρ).bind fun x ρ => (gb ρ).bind fun y ρ => lift (op x y) ρ) := by
  refine PE.monoK (pe_cmpR ho ha hb hm) fun σ H Q ⟨ρ, env, h⟩ => ?_
  refine two env h hq fun da db ρ2 x y H1 H2 m v1 _ v2 _ r => ?_
  obtain ⟨d, e, k⟩ := fin_op (fr := fr) env m r hf hfl
  exact ⟨_, da, db, d, v1, v2.toBor, e, k⟩
/-- .. as a test -/
theorem x_cmpT {ga gb : Env → Out D} {op : D → D → Option Bool} {a b : Expr} {po : CmpOp} {pos : Pos} {fr : Bool} (ho : OpR X (compareOp po) (rD X.K (fun x y => (op x y).map .bl) fr)) (ha : PE X a (tO X.K R0 M xr W qa fa ga)) (hb : PE X b (tO X.K R0 M xr W qb fb gb))
    (hq : fa = .bor → qb = true) (hm : behindInMarks po b = false) :
    PT X (.Compare a [po] [b] pos) (tT X.K R0 M xr W (qa && qb) fun ρ => ((ga ρ).bind fun x ρ => (gb ρ).bind fun y ρ => lift ((op x y).map .bl) ρ).bind fun x ρ => lift (truthD x) ρ) := by
  refine PT.mono (pt_cmpR ho ha hb hm) fun σ H Q ⟨ρ, env, h⟩ => ?_
  dsimp only at h
  have h' : Rest X.K R0 M xr W (qa && qb) .shr σ H ρ (fun x H1 => ∃ k, x = .bl k ∧ Q k H1) ((ga ρ).bind fun x ρ => (gb ρ).bind fun y ρ => lift ((op x y).map .bl) ρ) := by
    cases e : ga ρ with
    | ok d1 ρ1 =>
      rw [e] at h
      dsimp only [Out.bind] at h ⊢
      cases e2 : gb ρ1 with
      | ok d2 ρ2 =>
        rw [e2] at h
        dsimp only [Out.bind] at h ⊢
        cases e3 : op d1 d2 with
        | none => rw [e3] at h; exact h
        | some b =>
          rw [e3] at h
          intro v H' m vo
          cases (show Rep _ _ _ (.bl b) v from vo)
          exact ⟨b, rfl, h H' m⟩
      | exc c p ρ2 => rw [e2] at h; exact h
      | stuck => rw [e2] at h; exact h
    | exc c p ρ1 => rw [e] at h; exact h
    | stuck => rw [e] at h; exact h
  refine two env h' hq fun da db ρ2 x y H1 H2 m v1 _ v2 _ r => ?_
  obtain ⟨d, e, k⟩ := fin_op (fr := fr) env m r (fun z => by cases z) (fun z => by cases z)
  refine ⟨_, da, db, d, v1, v2.toBor, e, fun z H' o => ?_⟩
  obtain ⟨c, _, rfl⟩ := Option.map_eq_some_iff.mp e
  exact k z H' o (by rw [o.bl.2]; exact m.env.kf)
/-- any value as a test -/
theorem x_truth {g : Env → Out D} {a : Expr} (ha : PE X a (tO X.K R0 M xr W qa fa g)) (he : ∀ whole, isTrue a X.env whole = (do let v ← whole; standAt a.pos; holding [v] (truthy v))) :
    PT X a (tT X.K R0 M xr W qa fun ρ => (g ρ).bind fun x ρ => lift (truthD x) ρ) := by
  refine PT.mono (pt_truth ha he) fun σ H Q ⟨ρ, env, h⟩ => ⟨ρ, env, ?_⟩
  dsimp only at h
  cases e : g ρ with
  | ok d ρ' =>
    rw [e] at h
    dsimp only [Out.bind] at h
    cases e2 : truthD d with
    | none => rw [e2] at h; exact h.elim
    | some b => rw [e2] at h; exact fun v H' m vo => ⟨b, truD vo.toBor e2, h H' m⟩
  | exc c p ρ' => rw [e] at h; exact h
  | stuck => rw [e] at h; exact h
/-- not -/
theorem x_not {g : Env → Out D} {a : Expr} {pos : Pos} (ha : PE X a (tO X.K R0 M xr W qa fa g)) (hfl : fl ≠ .bor) :
    PE X (.UnaryOp .Not a pos) (tO X.K R0 M xr W qa fl fun ρ => (g ρ).bind fun x ρ => lift ((truthD x).map fun b => .bl (!b)) ρ) := by
  refine PE.mono (pe_notT ha) fun σ H Q ⟨ρ, env, h⟩ => ?_
  refine one env h fun d ρ1 x H1 m vo r => ?_
  cases e : truthD d with
  | none => rw [e] at r; exact r.elim
  | some b =>
    rw [e] at r
    exact ⟨b, truD vo.toBor e, r _ _ m (VOk.flat (.bl _) rfl)⟩
theorem x_notT {g : Env → Out D} {a : Expr} {pos : Pos} (ha : PT X a (tT X.K R0 M xr W qa fun ρ => (g ρ).bind fun x ρ => lift (truthD x) ρ)) :
    PT X (.UnaryOp .Not a pos) (tT X.K R0 M xr W qa fun ρ => ((g ρ).bind fun x ρ => lift ((truthD x).map fun b => .bl (!b)) ρ).bind fun x ρ => lift (truthD x) ρ) := by
  refine PT.mono (pt_not ha) fun σ H Q ⟨ρ, env, h⟩ => ⟨ρ, env, ?_⟩
  dsimp only at h ⊢
  cases e : g ρ with
  | ok d ρ' =>
    rw [e] at h
    dsimp only [Out.bind] at h ⊢
    cases e2 : truthD d with
    | none => rw [e2] at h; exact h
    | some b => rw [e2] at h; exact fun H' m => h H' m
  | exc c p ρ' => rw [e] at h; exact h
  | stuck => rw [e] at h; exact h
/-- neg -/
theorem x_neg {g : Env → Out D} {a : Expr} {pos : Pos} (ha : PE X a (tO X.K R0 M xr W qa fa g)) (hfl : fl ≠ .bor) :
    PE X (.UnaryOp .USub a pos) (tO X.K R0 M xr W qa fl fun ρ => (g ρ).bind fun x ρ => match x with | .int i => .ok (.int (-i)) ρ | _ => .stuck) := by
  refine PE.mono (pe_un un_neg ha) fun σ H Q ⟨ρ, env, h⟩ => ?_
  refine one env h fun d ρ1 x H1 m vo r => ?_
  cases d with
  | int i =>
    cases vo.toBor.int
    exact ⟨i, rfl, r _ _ m (VOk.flat (.int _) rfl)⟩
  | _ => exact False.elim r
/-- a op b op' c -/
theorem x_chain {ga gb gc : Env → Out D} {op op' : D → D → Option Bool} {a b c : Expr} {po po' : CmpOp} {pos : Pos} (ho : OpR X (compareOp po) (rD X.K (fun x y => (op x y).map .bl) true)) (ho' : OpR X (compareOp po') (rD X.K (fun x y => (op' x y).map .bl) true))
    (ha : PE X a (tO X.K R0 M xr W qa fa ga)) (hb : PE X b (tO X.K R0 M xr W qb fb gb)) (hc : PE X c (tO X.K R0 M xr W qc fc gc)) (hq : fa = .bor → qb = true) (hq2 : fb = .bor → qc = true) (hfl : fl ≠ .bor) (hm : lastMarks [po, po'] [b, c] = false) :
    PE X (.Compare a [po, po'] [b, c] pos) (tO X.K R0 M xr W (qa && qb && qc) fl fun ρ => (ga ρ).bind fun x ρ => (gb ρ).bind fun y ρ => match op x y with
      | some true => (gc ρ).bind fun z ρ => lift ((op' y z).map .bl) ρ
      | some false => .ok (.bl false) ρ
      | none => .stuck) := by
  refine PE.monoK (pe_chain ho ho' ha hb hc hm) fun σ H Q ⟨ρ, env, h⟩ => ?_
  refine two env h hq fun da db ρ2 x y H1 H2 m v1 _ v2 hR r => ?_
  have r : Rest X.K R0 M xr W (qa && qb && qc) fl σ H ρ Q (match op da db with
      | some true => (gc ρ2).bind fun z ρ => lift ((op' db z).map .bl) ρ
      | some false => .ok (.bl false) ρ2
      | none => .stuck) := r
  cases e : op da db with
  | none => rw [e] at r; exact r.elim
  | some k =>
    refine ⟨Rr R0 M ρ σ, da, db, .bl k, v1, v2.toBor, by dsimp only; rw [e]; rfl, fun z H3 o => ?_⟩
    obtain ⟨rfl, rfl⟩ := o.bl
    refine ⟨k, rfl, ?_⟩
    rw [e] at r
    cases k with
    | false => exact fun _ => r _ _ (m.weak fun z => by rw [Bool.and_eq_true] at z; exact z.1) (VOk.flat (.bl _) rfl)
    | true =>
      refine ⟨ρ2, m.env, ?_⟩
      cases e2 : gc ρ2 with
      | ok dc ρ3 =>
        dsimp only at r
        rw [e2] at r
        intro w H4 m2 v4
        rw [m.rr] at v4
        have r : Rest X.K R0 M xr W (qa && qb && qc) fl σ H ρ Q (lift ((op' db dc).map .bl) ρ3) := r
        have m3 := m.trans m2
        obtain ⟨d, e, k⟩ := fin_op (fr := true) env m3 r (fun _ => rfl) hfl
        exact ⟨Rr R0 M ρ σ, db, dc, d, v2.moved m2 m.live hR hq2, v4.toBor, e, k⟩
      | exc c p ρ3 =>
        dsimp only at r
        rw [e2] at r
        intro cv dx H4 m2 xx
        rw [m.rr] at xx
        exact r cv dx H4 ((m.trans m2).weak fun z => by cases z) xx
      | stuck => dsimp only at r; rw [e2] at r; exact r.elim
end
end Ev
end -- EvX

section -- EvX2
set_option Elab.async false
set_option linter.all false
set_option maxRecDepth 100000
set_option maxHeartbeats 1000000
/-! EvX2: further rules of expressions. -/
namespace Ev
open PySem PySem.Spec PyProof.Rows L2

section
variable {X : Cx} {R0 : Addr → Prop} {M : List Mode} {xr : XR} {W : WX} {q qa qb qc : Bool} {fl fa fb fc : Fl} {σ : L2.St} {H H1 H2 H' : Hp} {ρ ρ1 ρ2 : Env} {d : D} {v : V} {Q : VK}
abbrev tr (g : Env → Out D) : Env → Out Bool := fun ρ => (g ρ).bind fun x ρ => lift (truthD x) ρ
/-- the outcome of a test, then what is made of it -/
theorem RestB.of {g : Env → Out D} {k : Bool → Env → Out D} (h : Rest X.K R0 M xr W q fl σ H ρ Q ((g ρ).bind fun x ρ => match truthD x with | some b => k b ρ | none => .stuck)) {P : Bool → Hp → Prop}
    (hk : ∀ b ρ1 H1, Mv X.K R0 M σ qa H ρ H1 ρ1 → Rest X.K R0 M xr W q fl σ H ρ Q (k b ρ1) → P b H1) : RestB X.K R0 M xr W qa σ H ρ P (tr g ρ) := by
  show RestB X.K R0 M xr W qa σ H ρ P ((g ρ).bind fun x ρ => lift (truthD x) ρ)
  cases e : g ρ with
  | ok d ρ1 =>
    rw [e] at h
    dsimp only [Out.bind] at h ⊢
    cases e2 : truthD d with
    | none => rw [e2] at h; exact h.elim
    | some b => rw [e2] at h; exact fun H1 m => hk b ρ1 H1 m h
  | exc c p ρ1 => rw [e] at h; exact h
  | stuck => rw [e] at h; exact h
/-- the second step's outcome, seen from the start -/
theorem Rest.back {o : Out D} (m : Mv X.K R0 M σ qa H ρ H1 ρ1) (hq : q = true → qa = true ∧ qb = true) (env : EnvOk X.K R0 M σ H ρ) (h : Rest X.K R0 M xr W q fl σ H ρ Q o) : Rest X.K R0 M xr W qb fl σ H1 ρ1 Q o := by
  cases o with
  | ok d ρ2 =>
    intro v H2 m2 vo
    rw [m.rr] at vo
    refine h v H2 ((m.trans m2).weak fun z => by rw [(hq z).1, (hq z).2]; rfl) ?_
    cases fl with
    | fresh =>
      cases d with
      | lst ds => obtain ⟨a, vs, e, h0, h1, t, z⟩ := vo; exact ⟨a, vs, e, m.was h0, h1, t, z⟩
      | _ => exact vo
    | shr => exact vo
    | bor => exact vo
  | exc c p ρ2 =>
    intro cv dx H2 m2 xx
    rw [m.rr] at xx
    exact h cv dx H2 ((m.trans m2).weak fun z => by cases z) xx
  | stuck => exact h
theorem RestB.back {o : Out Bool} {P : Bool → Hp → Prop} (m : Mv X.K R0 M σ qa H ρ H1 ρ1) (hq : q = true → qa = true ∧ qb = true) (h : RestB X.K R0 M xr W q σ H ρ P o) : RestB X.K R0 M xr W qb σ H1 ρ1 P o := by
  cases o with
  | ok d ρ2 =>
    intro H2 m2
    exact h H2 ((m.trans m2).weak fun z => by rw [(hq z).1, (hq z).2]; rfl)
  | exc c p ρ2 =>
    intro cv dx H2 m2 xx
    rw [m.rr] at xx
    exact h cv dx H2 ((m.trans m2).weak fun z => by cases z) xx
  | stuck => exact h

/-! ### and, or as values -/
theorem x_andV {ga gr : Env → Out D} {a b : Expr} {rest : List Expr} {pos : Pos} (ha : PE X a (tO X.K R0 M xr W qa fa ga)) (hb : PE X (.BoolOp .And (b :: rest) pos) (tO X.K R0 M xr W qb .shr gr)) (hf : fa ≠ .bor) :
    PE X (.BoolOp .And (a :: b :: rest) pos) (tO X.K R0 M xr W (qa && qb) .shr fun ρ => (ga ρ).bind fun x ρ => match truthD x with
      | some true => gr ρ
      | some false => .ok x ρ
      | none => .stuck) := by
  refine PE.mono (pe_andT ha hb) fun σ H Q ⟨ρ, env, h⟩ => ?_
  refine one env h fun d ρ1 x H1 m vo r => ?_
  cases e : truthD d with
  | none => rw [e] at r; exact r.elim
  | some k =>
    rw [e] at r
    refine ⟨k, truD vo.toBor e, ?_⟩
    cases k with
    | true => exact ⟨ρ1, m.env, r.back m (fun z => by rw [Bool.and_eq_true] at z; exact z) env⟩
    | false => exact r _ _ (m.weak fun z => by rw [Bool.and_eq_true] at z; exact z.1) (vo.rep hf fun a ha => env.domR ha)
theorem x_orV {ga gr : Env → Out D} {a b : Expr} {rest : List Expr} {pos : Pos} (ha : PE X a (tO X.K R0 M xr W qa fa ga)) (hb : PE X (.BoolOp .Or (b :: rest) pos) (tO X.K R0 M xr W qb .shr gr)) (hf : fa ≠ .bor) :
    PE X (.BoolOp .Or (a :: b :: rest) pos) (tO X.K R0 M xr W (qa && qb) .shr fun ρ => (ga ρ).bind fun x ρ => match truthD x with
      | some true => .ok x ρ
      | some false => gr ρ
      | none => .stuck) := by
  refine PE.mono (pe_orT ha hb) fun σ H Q ⟨ρ, env, h⟩ => ?_
  refine one env h fun d ρ1 x H1 m vo r => ?_
  cases e : truthD d with
  | none => rw [e] at r; exact r.elim
  | some k =>
    rw [e] at r
    refine ⟨k, truD vo.toBor e, ?_⟩
    cases k with
    | false => exact ⟨ρ1, m.env, r.back m (fun z => by rw [Bool.and_eq_true] at z; exact z) env⟩
    | true => exact r _ _ (m.weak fun z => by rw [Bool.and_eq_true] at z; exact z.1) (vo.rep hf fun a ha => env.domR ha)
/-! ### and, or as tests -/
theorem x_andT {ga gr : Env → Out D} {a b : Expr} {rest : List Expr} {pos : Pos} (ha : PT X a (tT X.K R0 M xr W qa (tr ga))) (hb : PW X (.BoolOp .And (b :: rest) pos) (tT X.K R0 M xr W qb (tr gr))) :
    PW X (.BoolOp .And (a :: b :: rest) pos) (tT X.K R0 M xr W (qa && qb) (tr fun ρ => (ga ρ).bind fun x ρ => match truthD x with
      | some true => gr ρ
      | some false => .ok x ρ
      | none => .stuck)) := by
  refine ⟨fun whole pins s σ H Q I ⟨ρ, env, h⟩ => (pw_and ha hb).run whole pins s σ H Q I ⟨ρ, env, ?_⟩⟩
  have h : RestB X.K R0 M xr W (qa && qb) σ H ρ Q (((ga ρ).bind fun x ρ => match truthD x with
      | some true => gr ρ
      | some false => .ok x ρ
      | none => .stuck).bind fun x ρ => lift (truthD x) ρ) := h
  show RestB X.K R0 M xr W qa σ H ρ _ ((ga ρ).bind fun x ρ => lift (truthD x) ρ)
  cases e : ga ρ with
  | ok d ρ1 =>
    rw [e] at h
    dsimp only [Out.bind] at h ⊢
    cases e2 : truthD d with
    | none => rw [e2] at h; exact h.elim
    | some b =>
      rw [e2] at h
      intro H1 m
      cases b with
      | true => exact ⟨ρ1, m.env, RestB.back (o := tr gr ρ1) m (fun z => by rw [Bool.and_eq_true] at z; exact z) h⟩
      | false =>
        have h : RestB X.K R0 M xr W (qa && qb) σ H ρ Q (lift (truthD d) ρ1) := h
        rw [e2] at h
        exact h H1 (m.weak fun z => by rw [Bool.and_eq_true] at z; exact z.1)
  | exc c p ρ1 => rw [e] at h; exact h
  | stuck => rw [e] at h; exact h
theorem x_orT {ga gr : Env → Out D} {a b : Expr} {rest : List Expr} {pos : Pos} (ha : PT X a (tT X.K R0 M xr W qa (tr ga))) (hb : PW X (.BoolOp .Or (b :: rest) pos) (tT X.K R0 M xr W qb (tr gr))) :
    PW X (.BoolOp .Or (a :: b :: rest) pos) (tT X.K R0 M xr W (qa && qb) (tr fun ρ => (ga ρ).bind fun x ρ => match truthD x with
      | some true => .ok x ρ
      | some false => gr ρ
      | none => .stuck)) := by
  refine ⟨fun whole pins s σ H Q I ⟨ρ, env, h⟩ => (pw_or ha hb).run whole pins s σ H Q I ⟨ρ, env, ?_⟩⟩
  have h : RestB X.K R0 M xr W (qa && qb) σ H ρ Q (((ga ρ).bind fun x ρ => match truthD x with
      | some true => .ok x ρ
      | some false => gr ρ
      | none => .stuck).bind fun x ρ => lift (truthD x) ρ) := h
  show RestB X.K R0 M xr W qa σ H ρ _ ((ga ρ).bind fun x ρ => lift (truthD x) ρ)
  cases e : ga ρ with
  | ok d ρ1 =>
    rw [e] at h
    dsimp only [Out.bind] at h ⊢
    cases e2 : truthD d with
    | none => rw [e2] at h; exact h.elim
    | some b =>
      rw [e2] at h
      intro H1 m
      cases b with
      | false => exact ⟨ρ1, m.env, RestB.back (o := tr gr ρ1) m (fun z => by rw [Bool.and_eq_true] at z; exact z) h⟩
      | true =>
        have h : RestB X.K R0 M xr W (qa && qb) σ H ρ Q (lift (truthD d) ρ1) := h
        rw [e2] at h
        exact h H1 (m.weak fun z => by rw [Bool.and_eq_true] at z; exact z.1)
  | exc c p ρ1 => rw [e] at h; exact h
  | stuck => rw [e] at h; exact h
/-! ### a if c else b -/
theorem x_ite {gc ga gb : Env → Out D} {c a b : Expr} {pos : Pos} (hc : PT X c (tT X.K R0 M xr W qc (tr gc))) (ha : PE X a (tO X.K R0 M xr W qa fl ga)) (hb : PE X b (tO X.K R0 M xr W qb fl gb)) :
    PE X (.IfExp c a b pos) (tO X.K R0 M xr W (qc && qa && qb) fl fun ρ => (gc ρ).bind fun x ρ => match truthD x with
      | some true => ga ρ
      | some false => gb ρ
      | none => .stuck) := by
  refine PE.mono (pe_ifExp hc ha hb) fun σ H Q ⟨ρ, env, h⟩ => ⟨ρ, env, ?_⟩
  refine RestB.of (k := fun b ρ => if b = true then ga ρ else gb ρ) (fl := fl) (q := qc && qa && qb) (Q := Q) ?_ fun b ρ1 H1 m r => ?_
  · refine cast (congrArg _ ?_) h
    show ((gc ρ).bind _) = ((gc ρ).bind _)
    congr 1
    funext x ρ
    cases truthD x with
    | none => rfl
    | some b => cases b <;> rfl
  · cases b with
    | true =>
      rw [if_pos rfl] at r ⊢
      exact ⟨ρ1, m.env, r.back m (fun z => by simp only [Bool.and_eq_true] at z; exact ⟨z.1.1, z.1.2⟩) env⟩
    | false =>
      rw [if_neg (by decide)] at r ⊢
      exact ⟨ρ1, m.env, r.back m (fun z => by simp only [Bool.and_eq_true] at z; exact ⟨z.1.1, z.2⟩) env⟩

/-! ### rows of values -/
theorem a_nil : PA X [] (tL X.K R0 M xr W true fun ρ => .ok [] ρ) := PA.mono pa_nil fun σ H Q ⟨ρ, env, h⟩ => h [] H (.refl env) .nil
theorem a_cons {e : Expr} {es : List Expr} {ga : Env → Out D} {gs : Env → Out (List D)} (ha : PE X e (tO X.K R0 M xr W qa fa ga)) (hs : PA X es (tL X.K R0 M xr W qb gs)) (hf : fa ≠ .bor) (hst : starEach (e :: es) X.env = (false, eval e X.env) :: starEach es X.env) :
    PA X (e :: es) (tL X.K R0 M xr W (qa && qb) fun ρ => (ga ρ).bind fun x ρ => (gs ρ).bind fun xs ρ => .ok (x :: xs) ρ) := by
  refine PA.mono (pa_cons ha hs hst) fun σ H Q ⟨ρ, env, h⟩ => ⟨ρ, env, ?_⟩
  dsimp only at h
  cases e : ga ρ with
  | ok d ρ1 =>
    rw [e] at h
    intro x H1 m vo
    refine ⟨ρ1, m.env, ?_⟩
    dsimp only [Out.bind] at h
    cases e2 : gs ρ1 with
    | ok ds ρ2 =>
      rw [e2] at h
      intro vs H2 m2 rs
      rw [m.rr] at rs
      exact h _ H2 (m.trans m2) (.cons (vo.movedRep m2 m.live (fun a z => env.domR z) hf) rs)
    | exc c p ρ2 =>
      rw [e2] at h
      intro cv dx H2 m2 xx
      rw [m.rr] at xx
      exact h cv dx H2 ((m.trans m2).weak fun z => by cases z) xx
    | stuck => rw [e2] at h; exact h.elim
  | exc c p ρ1 => rw [e] at h; exact h
  | stuck => rw [e] at h; exact h
/-- rows of values that are only read -/
def RestR (K : PySem.W.Frag) (R0 : Addr → Prop) (M : List Mode) (xr : XR) (W : WX) (q : Bool) (σ : L2.St) (H : Hp) (ρ : Env) (Q : List V → Hp → Prop) (o : Out (List D)) : Prop := match o with
  | .ok ds ρ' => ∀ vs H', Mv K R0 M σ q H ρ H' ρ' → Paired (fun d x => BorOk K (Rr R0 M ρ σ) H' d x) ds vs → Q vs H'
  | .exc c p ρ' => ∀ cv dx H', Mv K R0 M σ false H ρ H' ρ' → xr (Rr R0 M ρ σ) H' c p cv dx → W cv dx σ H'
  | .stuck => False
def tR (K : PySem.W.Frag) (R0 : Addr → Prop) (M : List Mode) (xr : XR) (W : WX) (q : Bool) (g : Env → Out (List D)) : TA := fun σ H Q => ∃ ρ, EnvOk K R0 M σ H ρ ∧ RestR K R0 M xr W q σ H ρ Q (g ρ)
theorem r_nil : PA X [] (tR X.K R0 M xr W true fun ρ => .ok [] ρ) := PA.mono pa_nil fun σ H Q ⟨ρ, env, h⟩ => h [] H (.refl env) .nil
theorem r_cons {e : Expr} {es : List Expr} {ga : Env → Out D} {gs : Env → Out (List D)} (ha : PE X e (tO X.K R0 M xr W qa fa ga)) (hs : PA X es (tR X.K R0 M xr W qb gs)) (hq : fa = .bor → qb = true) (hst : starEach (e :: es) X.env = (false, eval e X.env) :: starEach es X.env) :
    PA X (e :: es) (tR X.K R0 M xr W (qa && qb) fun ρ => (ga ρ).bind fun x ρ => (gs ρ).bind fun xs ρ => .ok (x :: xs) ρ) := by
  refine PA.mono (pa_cons ha hs hst) fun σ H Q ⟨ρ, env, h⟩ => ⟨ρ, env, ?_⟩
  dsimp only at h
  cases e : ga ρ with
  | ok d ρ1 =>
    rw [e] at h
    intro x H1 m vo
    refine ⟨ρ1, m.env, ?_⟩
    dsimp only [Out.bind] at h
    cases e2 : gs ρ1 with
    | ok ds ρ2 =>
      rw [e2] at h
      intro vs H2 m2 rs
      rw [m.rr] at rs
      exact h _ H2 (m.trans m2) (.cons (vo.moved m2 m.live (fun a z => env.domR z) hq) rs)
    | exc c p ρ2 =>
      rw [e2] at h
      intro cv dx H2 m2 xx
      rw [m.rr] at xx
      exact h cv dx H2 ((m.trans m2).weak fun z => by cases z) xx
    | stuck => rw [e2] at h; exact h.elim
  | exc c p ρ1 => rw [e] at h; exact h
  | stuck => rw [e] at h; exact h
/-! ### displays -/
theorem x_tup {es : List Expr} {gs : Env → Out (List D)} {k : Nat} {pos : Pos} (hs : PA X es (tL X.K R0 M xr W q gs)) (hl : ∀ ρ ds ρ', gs ρ = .ok ds ρ' → ds.length ≤ LIM) :
    PE X (.Tuple es k pos) (tO X.K R0 M xr W q fl fun ρ => (gs ρ).bind fun xs ρ => .ok (.tup xs) ρ) := by
  refine PE.monoK (pe_tup hs) fun σ H Q ⟨ρ, env, h⟩ => ⟨ρ, env, ?_⟩
  dsimp only at h
  cases e : gs ρ with
  | ok ds ρ1 =>
    rw [e] at h
    intro vs H1 m rs
    have hz := hl _ _ _ e
    refine ⟨by rw [← rs.length, lim_eq]; exact hz, fun p hp hk => h _ _ (m.new hp hk) (VOk.newTup hp (m.was hp) (fun a ha => env.domR ha) rs hz)⟩
  | exc c p ρ1 => rw [e] at h; exact h
  | stuck => rw [e] at h; exact h
theorem x_lst {es : List Expr} {gs : Env → Out (List D)} {pos : Pos} (hs : PA X es (tL X.K R0 M xr W q gs)) (hl : ∀ ρ ds ρ', gs ρ = .ok ds ρ' → ds.length ≤ LIM) (hfl : fl ≠ .bor) :
    PE X (.List es pos) (tO X.K R0 M xr W q fl fun ρ => (gs ρ).bind fun xs ρ => .ok (.lst xs) ρ) := by
  refine PE.monoK (pe_lst hs) fun σ H Q ⟨ρ, env, h⟩ => ⟨ρ, env, ?_⟩
  dsimp only at h
  cases e : gs ρ with
  | ok ds ρ1 =>
    rw [e] at h
    intro vs H1 m rs
    have hz := hl _ _ _ e
    refine ⟨by rw [← rs.length, lim_eq]; exact hz, fun p hp hk => h _ _ (m.new hp hk) (VOk.newLst hfl hp (m.was hp) (fun a ha => env.domR ha) rs hz)⟩
  | exc c p ρ1 => rw [e] at h; exact h
  | stuck => rw [e] at h; exact h
/-! ### subscripts and slices -/
theorem x_sub {ga gb : Env → Out D} {a b : Expr} {pos : Pos} (ha : PE X a (tO X.K R0 M xr W qa fa ga)) (hb : PE X b (tO X.K R0 M xr W qb fb gb)) (hq : fa = .bor → qb = true) (hs : PlainIx b) :
    PE X (.Subscript a b pos) (tO X.K R0 M xr W (qa && qb) .shr fun ρ => (ga ρ).bind fun x ρ => (gb ρ).bind fun y ρ => lift (opSub x y) ρ) := by
  refine PE.mono (pe_ix ixD ha hb hs) fun σ H Q ⟨ρ, env, h⟩ => ?_
  refine two env h hq fun da db ρ2 x y H1 H2 m v1 _ v2 _ r => ?_
  obtain ⟨d, e, k⟩ := Rest.lift r
  exact ⟨_, da, db, d, v1, v2.toBor, e, fun z rz => k z _ m rz⟩
/-- a slice's part -/
def RestP (K : PySem.W.Frag) (R0 : Addr → Prop) (M : List Mode) (xr : XR) (W : WX) (q : Bool) (σ : L2.St) (H : Hp) (ρ : Env) (Q : Option Int → Hp → Prop) (o : Out (Option Int)) : Prop := match o with
  | .ok d ρ' => ∀ H', Mv K R0 M σ q H ρ H' ρ' → Q d H'
  | .exc c p ρ' => ∀ cv dx H', Mv K R0 M σ false H ρ H' ρ' → xr (Rr R0 M ρ σ) H' c p cv dx → W cv dx σ H'
  | .stuck => False
def tP (K : PySem.W.Frag) (R0 : Addr → Prop) (M : List Mode) (xr : XR) (W : WX) (q : Bool) (g : Env → Out (Option Int)) : TO := fun σ H Q => ∃ ρ, EnvOk K R0 M σ H ρ ∧ RestP K R0 M xr W q σ H ρ Q (g ρ)
theorem PO.mono {e : Option Expr} {t t' : TO} (h : PO X e t) (hm : ∀ σ H Q, t' σ H Q → t σ H Q) : PO X e t' := ⟨fun pins s σ H Q I q => h.run pins s σ H Q I (hm σ H Q q)⟩
theorem p_none : PO X none (tP X.K R0 M xr W true fun ρ => .ok none ρ) := PO.mono po_none fun σ H Q ⟨ρ, env, h⟩ => h H (.refl env)
def intOnly : D → Env → Out (Option Int)
  | .int i, ρ => .ok (some i) ρ
  | _, _ => .stuck
theorem p_some {e : Expr} {g : Env → Out D} (h : PE X e (tO X.K R0 M xr W q fa g)) : PO X (some e) (tP X.K R0 M xr W q fun ρ => (g ρ).bind intOnly) := by
  refine PO.mono (po_some h) fun σ H Q ⟨ρ, env, h⟩ => ⟨ρ, env, ?_⟩
  dsimp only at h
  cases e : g ρ with
  | ok d ρ1 =>
    rw [e] at h
    cases d with
    | int i => intro v H1 m vo; cases vo.toBor.int; exact ⟨i, rfl, h H1 m⟩
    | _ => exact h.elim
  | exc c p ρ1 => rw [e] at h; exact h
  | stuck => rw [e] at h; exact h
theorem x_slice {ga : Env → Out D} {gl gh : Env → Out (Option Int)} {a : Expr} {lo hi : Option Expr} {p2 pos : Pos} (ha : PE X a (tO X.K R0 M xr W qa fa ga)) (hl : PO X lo (tP X.K R0 M xr W qb gl)) (hh : PO X hi (tP X.K R0 M xr W qc gh))
    (hq : fa = .bor → qb = true ∧ qc = true) (hfl : fl ≠ .bor) :
    PE X (.Subscript a (.Slice lo hi none p2) pos) (tO X.K R0 M xr W (qa && qb && qc) fl fun ρ => (ga ρ).bind fun x ρ => (gl ρ).bind fun l ρ => (gh ρ).bind fun h ρ => lift (opSlice x (toPart l) (toPart h)) ρ) := by
  refine PE.monoK (pe_slice slD ha hl hh) fun σ H Q ⟨ρ, env, h⟩ => ⟨ρ, env, ?_⟩
  dsimp only at h
  cases e : ga ρ with
  | ok d ρ1 =>
    rw [e] at h
    intro x H1 m vo
    refine ⟨ρ1, m.env, ?_⟩
    dsimp only [Out.bind] at h
    cases e2 : gl ρ1 with
    | ok l ρ2 =>
      rw [e2] at h
      intro H2 m2
      refine ⟨ρ2, m2.env, ?_⟩
      dsimp only [Out.bind] at h
      cases e3 : gh ρ2 with
      | ok u ρ3 =>
        rw [e3] at h
        intro H3 m3
        have h : Rest X.K R0 M xr W (qa && qb && qc) fl σ H ρ Q (lift (opSlice d (toPart l) (toPart u)) ρ3) := h
        have m4 := (m.trans m2).trans m3
        obtain ⟨d', e', k⟩ := fin_op (fr := true) env m4 h (fun _ => rfl) hfl
        have mm := m2.trans m3
        exact ⟨Rr R0 M ρ σ, d, d', vo.moved mm m.live (fun a z => env.domR z) (fun z => by rw [(hq z).1, (hq z).2]; rfl), e', k⟩
      | exc c p ρ3 =>
        rw [e3] at h
        intro cv dx H3 m3 xx
        rw [m2.rr, m.rr] at xx
        exact h cv dx H3 (((m.trans m2).trans m3).weak fun z => by cases z) xx
      | stuck => rw [e3] at h; exact h.elim
    | exc c p ρ2 =>
      rw [e2] at h
      intro cv dx H2 m2 xx
      rw [m.rr] at xx
      exact h cv dx H2 ((m.trans m2).weak fun z => by cases z) xx
    | stuck => rw [e2] at h; exact h.elim
  | exc c p ρ1 => rw [e] at h; exact h
  | stuck => rw [e] at h; exact h
theorem x_rev {ga : Env → Out D} {a : Expr} {k : Nat} {p1 p2 p3 pos : Pos} (ha : PE X a (tO X.K R0 M xr W qa fa ga)) (hfl : fl ≠ .bor) :
    PE X (.Subscript a (.Slice none none (some (.UnaryOp .USub (.Constant (.int 1) k p1) p2)) p3) pos) (tO X.K R0 M xr W qa fl fun ρ => (ga ρ).bind fun x ρ => lift (opRev x) ρ) := by
  refine PE.monoK (pe_revL ha) fun σ H Q ⟨ρ, env, h⟩ => ?_
  refine one env h fun d ρ1 x H1 m vo r => ?_
  cases d with
  | lst ds =>
    obtain ⟨p, vs, rfl, h1, t1, hz⟩ := vo.toBor.lst
    exact ⟨p, vs, rfl, h1, fun p' hp hk => r _ _ (m.new hp hk) (VOk.newLst hfl hp (m.was hp) (fun a ha => env.domR ha) t1.reverse (by rw [List.length_reverse]; exact hz))⟩
  | _ => exact False.elim r
/-! ### built-ins -/
theorem fin_row {ds : List D} {vs : List V} {op : List D → Option D} {fr : Bool} (env : EnvOk X.K R0 M σ H ρ) (m : Mv X.K R0 M σ q H ρ H2 ρ2) (pr : Paired (fun d x => BorOk X.K (Rr R0 M ρ σ) H2 d x) ds vs) (h : Rest X.K R0 M xr W q fl σ H ρ Q (lift (op ds) ρ2)) (hf : fl = .fresh → fr = true) (hb : fl ≠ .bor) :
    rDs X.K op fr vs H2 (fun v H' => KF X.K H' → Q v H') := by
  obtain ⟨d, e, k⟩ := fin_op (fr := fr) env m h hf hb
  exact ⟨_, ds, d, pr, e, k⟩
theorem x_row {gs : Env → Out (List D)} {op : List D → Option D} {fr : Bool} {r : List V → Hp → VK → Prop} (env : EnvOk X.K R0 M σ H ρ) (hf : fl = .fresh → fr = true) (hb : fl ≠ .bor) (h : Rest X.K R0 M xr W q fl σ H ρ Q ((gs ρ).bind fun xs ρ => lift (op xs) ρ))
    (hr : ∀ vs H', rDs X.K op fr vs H' (fun v H' => KF X.K H' → Q v H') → r vs H' (fun v H' => KF X.K H' → Q v H')) : RestR X.K R0 M xr W q σ H ρ (fun vs H1 => r vs H1 (fun v H' => KF X.K H' → Q v H')) (gs ρ) := by
  cases e : gs ρ with
  | ok ds ρ1 => rw [e] at h; exact fun vs H1 m pr => hr _ _ (fin_row env m pr h hf hb)
  | exc c p ρ1 => rw [e] at h; exact h
  | stuck => rw [e] at h; exact h
theorem x_callB {x : Str} {id : String} {gs : Env → Out (List D)} {op : List D → Option D} {fr : Bool} {e : Expr} {es : List Expr} {p pos : Pos} (hc : CallR X (.builtin id) (rDs X.K op fr)) (hg : Gl X x) (hm : X.mg x = none) (hv : bootBuiltins x = some (.builtin id))
    (ha : PA X (e :: es) (tR X.K R0 M xr W q gs)) (hf : fl = .fresh → fr = true) (hb : fl ≠ .bor) (hn : x ≠ "__name__") (hdb : (x == ("__debug__" : Str)) = false) (he : starEach (e :: es) X.env = (false, eval e X.env) :: starEach es X.env) (hpl : (backTo pos (starEach es X.env)).any (·.1) = false) :
    PE X (.Call (.Name x p) (e :: es) [] pos) (tO X.K R0 M xr W q fl fun ρ => (gs ρ).bind fun xs ρ => lift (op xs) ρ) :=
  PE.monoK (pe_callB hc hg hm hv ha hn hdb he hpl) fun σ H Q ⟨ρ, env, h⟩ => ⟨ρ, env, x_row (r := rDs X.K op fr) env hf hb h fun _ _ z => z⟩
theorem x_callTy {x : Str} {T : String} {gs : Env → Out (List D)} {op : List D → Option D} {fr : Bool} {e : Expr} {es : List Expr} {p pos : Pos} (hc : CallR X (.type T) (rDs X.K op fr)) (hg : Gl X x) (hm : X.mg x = none) (hv : bootBuiltins x = some (.type T))
    (ha : PA X (e :: es) (tR X.K R0 M xr W q gs)) (hf : fl = .fresh → fr = true) (hb : fl ≠ .bor) (hn : x ≠ "__name__") (hdb : (x == ("__debug__" : Str)) = false) (he : starEach (e :: es) X.env = (false, eval e X.env) :: starEach es X.env) (hpl : (backTo pos (starEach es X.env)).any (·.1) = false) :
    PE X (.Call (.Name x p) (e :: es) [] pos) (tO X.K R0 M xr W q fl fun ρ => (gs ρ).bind fun xs ρ => lift (op xs) ρ) :=
  PE.monoK (pe_callTy hc hg hm hv ha hn hdb he hpl) fun σ H Q ⟨ρ, env, h⟩ => ⟨ρ, env, x_row (r := rDs X.K op fr) env hf hb h fun _ _ z => z⟩
/-- isinstance(a, T) -/
theorem x_isi {ga : Env → Out D} {a : Expr} {t : TyK} {p p2 pos : Pos} (ha : PE X a (tO X.K R0 M xr W q fa ga)) (hg : Gl X "isinstance") (hm : X.mg "isinstance" = none) (hg2 : Gl X (tyName t)) (hm2 : X.mg (tyName t) = none) (hfl : fl ≠ .bor)
    (hs : starEach [a, .Name (tyName t) p2] X.env = (false, eval a X.env) :: starEach [.Name (tyName t) p2] X.env) :
    PE X (.Call (.Name "isinstance" p) [a, .Name (tyName t) p2] [] pos) (tO X.K R0 M xr W q fl fun ρ => (ga ρ).bind fun x ρ => lift ((isTy x t).map .bl) ρ) := by
  have hv : bootBuiltins (tyName t) = some (.type (tyName t)) := by cases t <;> (first | decide +kernel | boot_by_name)
  have hn : (tyName t : Str) ≠ "__name__" := by cases t <;> decide +kernel
  have hd : ((tyName t : Str) == ("__debug__" : Str)) = false := by cases t <;> decide +kernel
  have h2 : PE X (.Name (tyName t) p2) (tC (.ty (tyName t))) := pe_bltn hg2 hm2 hv rfl hn hd
  refine PE.mono (pe_callB call_isi hg hm (by boot_by_name) (pa_cons ha (pa_cons h2 pa_nil) hs) (he := hs)) fun σ H Q ⟨ρ, env, h⟩ => ?_
  refine one env h fun d ρ1 x H1 m vo r => ?_
  cases e : isTy d t with
  | none => rw [e] at r; exact r.elim
  | some b =>
    rw [e] at r
    have nb : ∀ c vs, d ≠ .obj c vs := fun c vs z => by subst z; cases (show Rep _ _ _ _ _ from vo.toBor)
    have nc : ∀ c vs, d ≠ .clo c vs := fun c vs z => by subst z; cases (show Rep _ _ _ _ _ from vo.toBor)
    exact ⟨x, _, _, _, b, rfl, .ty _, tyx_of vo.toBor, kit_ty (kit_tab d t b e nb nc), r _ _ m (VOk.flat (.bl _) rfl)⟩
end
end Ev
end -- EvX2

section -- EvX3
set_option Elab.async false
set_option linter.all false
set_option maxRecDepth 100000
set_option maxHeartbeats 1000000
/-! EvX3: calls of the text's own defs. -/
namespace Ev
open PySem PySem.Spec PyProof.Rows L2

/-! ### what a def promises -/
inductive ArgsOk (K : PySem.W.Frag) (R : Addr → Prop) (H : Hp) : List PM → List D → List V → Prop
  | nil : ArgsOk K R H [] [] []
  | shr {ms : List PM} {d : D} {ds : List D} {v : V} {vs : List V} : Rep K R H d v → ArgsOk K R H ms ds vs → ArgsOk K R H (.shr :: ms) (d :: ds) (v :: vs)
  | bor {ms : List PM} {d : D} {ds : List D} {v : V} {vs : List V} : BorOk K R H d v → ArgsOk K R H ms ds vs → ArgsOk K R H (.bor :: ms) (d :: ds) (v :: vs)
  | io {ms : List PM} {d : D} {ds : List D} {v : V} {vs : List V} : OwnOk K R H d v → (∀ a, v = .ref a → R a) → ArgsOk K R H ms ds vs → ArgsOk K R H (.io :: ms) (d :: ds) (v :: vs)
inductive OutsOk (K : PySem.W.Frag) (R : Addr → Prop) (H : Hp) : List PM → List D → List V → Prop
  | nil : OutsOk K R H [] [] []
  | io {ms : List PM} {d : D} {ds : List D} {v : V} {vs : List V} : OwnOk K R H d v → OutsOk K R H ms ds vs → OutsOk K R H (.io :: ms) (d :: ds) (v :: vs)
  | other {m : PM} {ms : List PM} {ds : List D} {v : V} {vs : List V} : m ≠ .io → OutsOk K R H ms ds vs → OutsOk K R H (m :: ms) ds (v :: vs)
/-- the address of a changed parameter -/
def IoA (ms : List PM) (vs : List V) (a : Addr) : Prop := ∃ i : Nat, ms[i]? = some PM.io ∧ vs[i]? = some (V.ref a)
def IoApart (ms : List PM) (ds : List D) (vs : List V) : Prop := ∀ (i j : Nat) (a : Addr), ms[i]? = some PM.io → vs[i]? = some (V.ref a) → vs[j]? = some (V.ref a) → (ms[j]? = some PM.io → i = j) ∧ ∀ d, ms[j]? = some PM.bor → ds[j]? = some d → isMut d = true → False
structure CFrm (ms : List PM) (vs : List V) (H H' : Hp) : Prop where
  keep : ∀ a o, H a = some o → ¬ IoA ms vs a → H' a = some o
  there : ∀ a, H a ≠ none → H' a ≠ none
def CRest (K : PySem.W.Frag) (R : Addr → Prop) (xr : XR) (H : Hp) (ms : List PM) (fresh : Bool) (vs : List V) (Q : VK) (E : XK) (o : COut) : Prop := match o with
  | .ok d outs => ∀ v H', KF K H' → CFrm ms vs H H' → OutsOk K R H' ms outs vs → VOk K R (if fresh then .fresh else .shr) H H' d v → Q v H'
  | .exc c p outs => ∀ cv dx H', KF K H' → CFrm ms vs H H' → OutsOk K R H' ms outs vs → xr R H' c p cv dx → E cv dx H'
  | .stuck => False
/-- the promise of a def by its evaluator -/
def spF (K : PySem.W.Frag) (xr : XR) (ms : List PM) (fresh : Bool) (cfi : List D → COut) : Sp := fun vs H Q E => ∃ (R : Addr → Prop) (ds : List D), ArgsOk K R H ms ds vs ∧ (∀ a, R a → H a ≠ none) ∧ KF K H ∧ IoApart ms ds vs ∧ CRest K R xr H ms fresh vs Q E (cfi ds)
theorem ArgsOk.len {K : PySem.W.Frag} {R : Addr → Prop} {H : Hp} {ms : List PM} {ds : List D} {vs : List V} (h : ArgsOk K R H ms ds vs) : vs.length = ms.length ∧ ds.length = ms.length := by
  induction h with
  | nil => exact ⟨rfl, rfl⟩
  | shr _ _ ih => exact ⟨by simp [ih.1], by simp [ih.2]⟩
  | bor _ _ ih => exact ⟨by simp [ih.1], by simp [ih.2]⟩
  | io _ _ _ ih => exact ⟨by simp [ih.1], by simp [ih.2]⟩

/-! ### the arguments of a call -/
def isBv : E → Bool
  | .bvar _ => true
  | _ => false
inductive ArgL (K : PySem.W.Frag) (R : Addr → Prop) (σ : L2.St) (H : Hp) : List E → List D → List V → Prop
  | nil : ArgL K R σ H [] [] []
  | bv {i : Nat} {es : List E} {d : D} {ds : List D} {v : V} {vs : List V} : σ[i]? = some (some v) → ArgL K R σ H es ds vs → ArgL K R σ H (.bvar i :: es) (d :: ds) (v :: vs)
  | val {e : E} {es : List E} {d : D} {ds : List D} {v : V} {vs : List V} : isBv e = false → Rep K R H d v → ArgL K R σ H es ds vs → ArgL K R σ H (e :: es) (d :: ds) (v :: vs)
def RestC (K : PySem.W.Frag) (R0 : Addr → Prop) (M : List Mode) (xr : XR) (W : WX) (q : Bool) (cs : List E) (σ : L2.St) (H : Hp) (ρ : Env) (Q : List V → Hp → Prop) (o : Out (List D)) : Prop := match o with
  | .ok ds ρ' => ∀ vs H', Mv K R0 M σ q H ρ H' ρ' → ArgL K (Rr R0 M ρ σ) σ H' cs ds vs → Q vs H'
  | .exc c p ρ' => ∀ cv dx H', Mv K R0 M σ false H ρ H' ρ' → xr (Rr R0 M ρ σ) H' c p cv dx → W cv dx σ H'
  | .stuck => False
def tA (K : PySem.W.Frag) (R0 : Addr → Prop) (M : List Mode) (xr : XR) (W : WX) (q : Bool) (cs : List E) (g : Env → Out (List D)) : TA := fun σ H Q => ∃ ρ, EnvOk K R0 M σ H ρ ∧ RestC K R0 M xr W q cs σ H ρ Q (g ρ)
section
variable {X : Cx} {R0 : Addr → Prop} {M : List Mode} {xr : XR} {W : WX} {q qa qb qc : Bool} {fl fa fb fc : Fl} {σ : L2.St} {H H1 H2 H' : Hp} {ρ ρ1 ρ2 : Env} {d : D} {v : V} {Q : VK}
theorem c_nil : PA X [] (tA X.K R0 M xr W true [] fun ρ => .ok [] ρ) := PA.mono pa_nil fun σ H Q ⟨ρ, env, h⟩ => h [] H (.refl env) .nil
theorem c_val {e : Expr} {es : List Expr} {c : E} {cs : List E} {ga : Env → Out D} {gs : Env → Out (List D)} (ha : PE X e (tO X.K R0 M xr W qa fa ga)) (hs : PA X es (tA X.K R0 M xr W qb cs gs)) (hf : fa ≠ .bor) (hc : isBv c = false) (hst : starEach (e :: es) X.env = (false, eval e X.env) :: starEach es X.env) :
    PA X (e :: es) (tA X.K R0 M xr W (qa && qb) (c :: cs) fun ρ => (ga ρ).bind fun x ρ => (gs ρ).bind fun xs ρ => .ok (x :: xs) ρ) := by
  refine PA.mono (pa_cons ha hs hst) fun σ H Q ⟨ρ, env, h⟩ => ⟨ρ, env, ?_⟩
  dsimp only at h
  cases e : ga ρ with
  | ok d ρ1 =>
    rw [e] at h
    intro x H1 m vo
    refine ⟨ρ1, m.env, ?_⟩
    dsimp only [Out.bind] at h
    cases e2 : gs ρ1 with
    | ok ds ρ2 =>
      rw [e2] at h
      intro vs H2 m2 rs
      rw [m.rr] at rs
      exact h _ H2 (m.trans m2) (.val hc (vo.movedRep m2 m.live (fun a z => env.domR z) hf) rs)
    | exc c p ρ2 =>
      rw [e2] at h
      intro cv dx H2 m2 xx
      rw [m.rr] at xx
      exact h cv dx H2 ((m.trans m2).weak fun z => by cases z) xx
    | stuck => rw [e2] at h; exact h.elim
  | exc c p ρ1 => rw [e] at h; exact h
  | stuck => rw [e] at h; exact h
theorem c_bv {e : Expr} {es : List Expr} {i : Nat} {cs : List E} {gs : Env → Out (List D)} (ha : PE X e (tVar i)) (hs : PA X es (tA X.K R0 M xr W qb cs gs)) (hst : starEach (e :: es) X.env = (false, eval e X.env) :: starEach es X.env) :
    PA X (e :: es) (tA X.K R0 M xr W (true && qb) (.bvar i :: cs) fun ρ => (lift (gv ρ i) ρ).bind fun x ρ => (gs ρ).bind fun xs ρ => .ok (x :: xs) ρ) := by
  refine PA.mono (pa_cons ha hs hst) fun σ H Q ⟨ρ, env, h⟩ => ?_
  dsimp only at h
  cases e : gv ρ i with
  | none => rw [e] at h; exact h.elim
  | some d =>
    rw [e] at h
    obtain ⟨v, hv, _⟩ := env.slot i d e
    refine ⟨v, hv, ρ, env, ?_⟩
    dsimp only [lift, Out.bind] at h
    cases e2 : gs ρ with
    | ok ds ρ2 =>
      rw [e2] at h
      intro vs H2 m2 rs
      exact h _ H2 (m2.weak fun z => by rw [Bool.and_eq_true] at z; exact z.2) (.bv hv rs)
    | exc c p ρ2 => rw [e2] at h; exact h
    | stuck => rw [e2] at h; exact h

/-- the names that are handed over to be changed, with what comes back -/
def ioPairs : List PM → List E → List D → List (Nat × D)
  | .io :: ms, .bvar i :: es, d :: ds => (i, d) :: ioPairs ms es ds
  | .io :: ms, _ :: es, ds => ioPairs ms es ds
  | _ :: ms, _ :: es, ds => ioPairs ms es ds
  | _, _, _ => []
def putP : List (Nat × D) → Env → Env
  | [], ρ => ρ
  | (i, d) :: r, ρ => putP r (ρ.set i (some d))
theorem putIO_eq : ∀ (ms : List PM) (es : List E) (ds : List D) (ρ : Env), putIO ms es ds ρ = putP (ioPairs ms es ds) ρ
  | [], _, _, ρ => by unfold putIO ioPairs; rfl
  | .io :: ms, [], ds, ρ => by unfold putIO ioPairs; rfl
  | .shr :: ms, [], ds, ρ => by unfold putIO ioPairs; rfl
  | .bor :: ms, [], ds, ρ => by unfold putIO ioPairs; rfl
  | .shr :: ms, e :: es, ds, ρ => by rw [putIO, ioPairs, putIO_eq ms es ds ρ] <;> (intros; simp_all)
  | .bor :: ms, e :: es, ds, ρ => by rw [putIO, ioPairs, putIO_eq ms es ds ρ] <;> (intros; simp_all)
  | .io :: ms, e :: es, ds, ρ => by
    cases e <;> first
      | (cases ds with
        | nil => rw [putIO, ioPairs, putIO_eq ms es [] ρ] <;> (intros; simp_all)
        | cons d ds => rw [putIO, ioPairs, putP, putIO_eq ms es ds _])
      | (rw [putIO, ioPairs, putIO_eq ms es ds ρ] <;> (intros; simp_all))
theorem gv_set {ρ : Env} {i j : Nat} {x : Option D} (h : i < ρ.length) : gv (ρ.set i x) j = if j = i then x else gv ρ j := by
  unfold gv
  rw [List.getElem?_set]
  by_cases e : j = i
  · subst e
    rw [if_pos rfl, if_pos rfl, if_pos h]
  · rw [if_neg (Ne.symm e), if_neg e]
theorem putP_len : ∀ (L : List (Nat × D)) (ρ : Env), (putP L ρ).length = ρ.length
  | [], _ => rfl
  | (i, d) :: r, ρ => by rw [putP, putP_len r, List.length_set]
theorem gv_putP : ∀ (L : List (Nat × D)) (ρ : Env) (j : Nat), (L.map (·.1)).Nodup → (∀ p ∈ L, p.1 < ρ.length) → (∀ d, (j, d) ∈ L → gv (putP L ρ) j = some d) ∧ ((∀ d, (j, d) ∉ L) → gv (putP L ρ) j = gv ρ j)
  | [], ρ, j, _, _ => ⟨fun d h => by simp at h, fun _ => rfl⟩
  | (i, d0) :: r, ρ, j, nd, hl => by
    rw [List.map_cons, List.nodup_cons] at nd
    have hi : i < ρ.length := hl (i, d0) List.mem_cons_self
    have ih := gv_putP r (ρ.set i (some d0)) j nd.2 (fun p hp => by rw [List.length_set]; exact hl p (List.mem_cons_of_mem _ hp))
    refine ⟨fun d h => ?_, fun h => ?_⟩
    · rcases List.mem_cons.mp h with e | h
      · have e1 : j = i := congrArg Prod.fst e
        have e2 : d = d0 := congrArg Prod.snd e
        subst e1 e2
        have hn : ∀ d, (j, d) ∉ r := fun d hd => nd.1 (List.mem_map.mpr ⟨_, hd, rfl⟩)
        rw [putP, ih.2 hn, gv_set hi, if_pos rfl]
      · rw [putP, ih.1 d h]
    · have hn : ∀ d, (j, d) ∉ r := fun d hd => h d (List.mem_cons_of_mem _ hd)
      have hne : j ≠ i := fun e => h d0 (by rw [e]; exact List.mem_cons_self)
      rw [putP, ih.2 hn, gv_set hi, if_neg hne]
/-- the arguments fit the parameters -/
def argFit (M : List Mode) : List PM → List E → Bool
  | [], [] => true
  | .shr :: ms, e :: es => !isBv e && argFit M ms es
  | .bor :: ms, .bvar i :: es => decide (md M i ≠ .shr) && argFit M ms es
  | .bor :: ms, _ :: es => argFit M ms es
  | .io :: ms, .bvar i :: es => (md M i).isOwn && argFit M ms es
  | _, _ => false
def ioIx : List PM → List E → List Nat
  | .io :: ms, .bvar i :: es => i :: ioIx ms es
  | _ :: ms, _ :: es => ioIx ms es
  | _, _ => []
def boIx : List PM → List E → List Nat
  | .bor :: ms, .bvar i :: es => i :: boIx ms es
  | _ :: ms, _ :: es => boIx ms es
  | _, _ => []
def argsFit (M : List Mode) (ms : List PM) (es : List E) : Bool := argFit M ms es && decide (ioIx ms es).Nodup && (boIx ms es).all fun i => !(ioIx ms es).contains i

theorem reread_cons {c : E} {cs : List E} {d : D} {ds ds' : List D} (h : reread (c :: cs) (d :: ds) ρ = some ds') : ∃ d' r, ds' = d' :: r ∧ reread cs ds ρ = some r ∧ (isBv c = false → d' = d) ∧ ∀ i, c = .bvar i → gv ρ i = some d' := by
  by_cases hb : ∃ i, c = .bvar i
  · obtain ⟨i, rfl⟩ := hb
    rw [reread] at h
    cases e : gv ρ i with
    | none => rw [e] at h; cases h
    | some d' =>
      rw [e] at h
      obtain ⟨r, hr, e2⟩ := Option.map_eq_some_iff.mp (show (reread cs ds ρ).map (d' :: ·) = some ds' from h)
      exact ⟨d', r, e2.symm, hr, fun z => (by cases z), fun j hj => by cases hj; exact e⟩
  · have h' : (reread cs ds ρ).map (d :: ·) = some ds' := by
      rw [← h, reread]
      intro i hi
      exact hb ⟨i, hi⟩
    obtain ⟨r, hr, e2⟩ := Option.map_eq_some_iff.mp h'
    exact ⟨d, r, e2.symm, hr, fun _ => rfl, fun j hj => absurd ⟨j, hj⟩ hb⟩
theorem isBv_of {c : E} (h : isBv c = false) : ∀ i, c ≠ .bvar i := fun i e => by rw [e] at h; cases h
theorem argFit_shr {c : E} {cs : List E} {ms : List PM} (h : argFit M (.shr :: ms) (c :: cs) = true) : isBv c = false ∧ argFit M ms cs = true := by
  rw [argFit, Bool.and_eq_true] at h
  exact ⟨by simpa using h.1, h.2⟩
theorem argFit_bor {c : E} {cs : List E} {ms : List PM} (h : argFit M (.bor :: ms) (c :: cs) = true) : argFit M ms cs = true ∧ ∀ i, c = .bvar i → md M i ≠ .shr := by
  by_cases hb : ∃ i, c = .bvar i
  · obtain ⟨i, rfl⟩ := hb
    rw [argFit, Bool.and_eq_true, decide_eq_true_eq] at h
    exact ⟨h.2, fun j e => by cases e; exact h.1⟩
  · have h' : argFit M ms cs = true := by
      rw [← h, argFit]
      intro i hi
      exact hb ⟨i, hi⟩
    exact ⟨h', fun i e => absurd ⟨i, e⟩ hb⟩
theorem argFit_io {c : E} {cs : List E} {ms : List PM} (h : argFit M (.io :: ms) (c :: cs) = true) : ∃ i, c = .bvar i ∧ (md M i).isOwn = true ∧ argFit M ms cs = true := by
  by_cases hb : ∃ i, c = .bvar i
  · obtain ⟨i, rfl⟩ := hb
    rw [argFit, Bool.and_eq_true] at h
    exact ⟨i, rfl, h.1, h.2⟩
  · have : argFit M (.io :: ms) (c :: cs) = false := by
      cases c <;> first | rfl | exact absurd ⟨_, rfl⟩ hb
    rw [this] at h; cases h
theorem SlotOk.own {K : PySem.W.Frag} {R : Addr → Prop} {m : Mode} (h : SlotOk K R H m d v) (hm : m.isOwn = true) : OwnOk K R H d v := by
  cases m with
  | shr => cases hm
  | bor => cases hm
  | own => exact h
  | io => exact h
/-- the arguments are as the promise wants them -/
theorem args_of {K : PySem.W.Frag} (env : EnvOk K R0 M σ H ρ) : ∀ {ms : List PM} {cs : List E} {ds ds' : List D} {vs : List V}, ArgL K (Rr R0 M ρ σ) σ H cs ds vs → argFit M ms cs = true → reread cs ds ρ = some ds' → ArgsOk K (Rr R0 M ρ σ) H ms ds' vs
  | [], _, _, ds', _, .nil, _, hr => by
    have : ds' = [] := by unfold reread at hr; exact (Option.some.inj hr).symm
    subst this; exact .nil
  | m :: _, _, _, _, _, .nil, hf, _ => by cases m <;> exact absurd hf (by unfold argFit; exact Bool.false_ne_true)
  | [], _, _, _, _, .bv _ _, hf, _ => by cases hf
  | [], _, _, _, _, .val _ _ _, hf, _ => by cases hf
  | .shr :: ms, _, _, _, _, .bv hv t, hf, hr => by
    have := (argFit_shr hf).1
    cases this
  | .shr :: ms, _, _, _, _, .val hb r t, hf, hr => by
    obtain ⟨d', r', rfl, hr', hd, _⟩ := reread_cons hr
    cases hd hb
    exact .shr r (args_of env t (argFit_shr hf).2 hr')
  | .bor :: ms, _, _, _, _, .bv hv t, hf, hr => by
    obtain ⟨d', r', rfl, hr', _, hg⟩ := reread_cons hr
    obtain ⟨v', e', so⟩ := env.slot _ d' (hg _ rfl)
    rw [hv] at e'; cases e'
    exact .bor so.bor (args_of env t (argFit_bor hf).1 hr')
  | .bor :: ms, _, _, _, _, .val hb r t, hf, hr => by
    obtain ⟨d', r', rfl, hr', hd, _⟩ := reread_cons hr
    cases hd hb
    exact .bor r.bor (args_of env t (argFit_bor hf).1 hr')
  | .io :: ms, _, _, _, _, .bv hv t, hf, hr => by
    obtain ⟨d', r', rfl, hr', _, hg⟩ := reread_cons hr
    obtain ⟨j, e, ho, hf'⟩ := argFit_io hf
    cases e
    obtain ⟨v', e', so⟩ := env.slot _ d' (hg _ rfl)
    rw [hv] at e'; cases e'
    exact .io (so.own ho) (fun a ea => .inr ⟨_, ho, ⟨d', hg _ rfl⟩, by rw [hv, ea]⟩) (args_of env t hf' hr')
  | .io :: ms, _, _, _, _, .val hb r t, hf, hr => by
    obtain ⟨j, e, _⟩ := argFit_io hf
    exact absurd e (isBv_of hb j)
theorem argFit_tail {m : PM} {c : E} {ms : List PM} {cs : List E} (hf : argFit M (m :: ms) (c :: cs) = true) : argFit M ms cs = true := by
  cases m with
  | shr => exact (argFit_shr hf).2
  | bor => exact (argFit_bor hf).1
  | io => obtain ⟨_, _, _, z⟩ := argFit_io hf; exact z
/-- by place -/
theorem argL_at {K : PySem.W.Frag} {R : Addr → Prop} : ∀ {ms : List PM} {cs : List E} {ds ds' : List D} {vs : List V} {i : Nat} {v : V}, ArgL K R σ H cs ds vs → argFit M ms cs = true → reread cs ds ρ = some ds' → vs[i]? = some v →
    ∃ c d', cs[i]? = some c ∧ ds'[i]? = some d' ∧ ((∃ k, c = .bvar k ∧ σ[k]? = some (some v) ∧ gv ρ k = some d') ∨ (isBv c = false ∧ Rep K R H d' v)) ∧
      (ms[i]? = some PM.io → ∃ k, c = .bvar k ∧ (md M k).isOwn = true) ∧ (ms[i]? = some PM.bor → ∀ k, c = .bvar k → md M k ≠ .shr)
  | _, _, _, _, _, i, v, .nil, _, _, h => by simp at h
  | [], _, _, _, _, _, _, .bv _ _, hf, _, _ => by cases hf
  | [], _, _, _, _, _, _, .val _ _ _, hf, _, _ => by cases hf
  | m :: ms, _, _, _, _, 0, v, .bv hv t, hf, hr, h => by
    simp at h; subst h
    obtain ⟨d', r', rfl, hr', _, hg⟩ := reread_cons hr
    refine ⟨_, d', rfl, rfl, .inl ⟨_, rfl, hv, hg _ rfl⟩, fun e => ?_, fun e => ?_⟩
    · simp at e; subst e
      obtain ⟨j, e, ho, _⟩ := argFit_io hf
      exact ⟨j, e, ho⟩
    · simp at e; subst e
      exact (argFit_bor hf).2
  | m :: ms, _, _, _, _, 0, v, .val hb r t, hf, hr, h => by
    simp at h; subst h
    obtain ⟨d', r', rfl, hr', hd, hg⟩ := reread_cons hr
    cases hd hb
    refine ⟨_, _, rfl, rfl, .inr ⟨hb, r⟩, fun e => ?_, fun e k hk => absurd hk (isBv_of hb k)⟩
    simp at e; subst e
    obtain ⟨j, e, _⟩ := argFit_io hf
    exact absurd e (isBv_of hb j)
  | m :: ms, _, _, _, _, i + 1, v, .bv hv t, hf, hr, h => by
    obtain ⟨d', r', rfl, hr', _, hg⟩ := reread_cons hr
    have hf' := argFit_tail hf
    obtain ⟨c, d2, h1, h2, h3⟩ := argL_at (i := i) t hf' hr' (by simpa using h)
    exact ⟨c, d2, by simpa using h1, by simpa using h2, by simpa using h3⟩
  | m :: ms, _, _, _, _, i + 1, v, .val hb r t, hf, hr, h => by
    obtain ⟨d', r', rfl, hr', _, hg⟩ := reread_cons hr
    have hf' := argFit_tail hf
    obtain ⟨c, d2, h1, h2, h3⟩ := argL_at (i := i) t hf' hr' (by simpa using h)
    exact ⟨c, d2, by simpa using h1, by simpa using h2, by simpa using h3⟩
theorem ioIx_mem : ∀ {ms : List PM} {cs : List E} {i k : Nat}, ms[i]? = some PM.io → cs[i]? = some (E.bvar k) → k ∈ ioIx ms cs
  | [], _, _, _, h, _ => by simp at h
  | _ :: _, [], _, _, _, h => by simp at h
  | m :: ms, c :: cs, 0, k, h1, h2 => by
    simp at h1 h2; subst h1 h2
    rw [ioIx]; exact List.mem_cons_self
  | m :: ms, c :: cs, i + 1, k, h1, h2 => by
    have ih := ioIx_mem (ms := ms) (cs := cs) (i := i) (k := k) (by simpa using h1) (by simpa using h2)
    cases m <;> first
      | (cases c <;> first | exact List.mem_cons_of_mem _ ih | exact ih)
theorem boIx_mem : ∀ {ms : List PM} {cs : List E} {i k : Nat}, ms[i]? = some PM.bor → cs[i]? = some (E.bvar k) → k ∈ boIx ms cs
  | [], _, _, _, h, _ => by simp at h
  | _ :: _, [], _, _, _, h => by simp at h
  | m :: ms, c :: cs, 0, k, h1, h2 => by
    simp at h1 h2; subst h1 h2
    rw [boIx]; exact List.mem_cons_self
  | m :: ms, c :: cs, i + 1, k, h1, h2 => by
    have ih := boIx_mem (ms := ms) (cs := cs) (i := i) (k := k) (by simpa using h1) (by simpa using h2)
    cases m <;> first
      | (cases c <;> first | exact List.mem_cons_of_mem _ ih | exact ih)
theorem ioIx_inj : ∀ {ms : List PM} {cs : List E} {i j k : Nat}, (ioIx ms cs).Nodup → ms[i]? = some PM.io → cs[i]? = some (E.bvar k) → ms[j]? = some PM.io → cs[j]? = some (E.bvar k) → i = j
  | [], _, _, _, _, _, h, _, _, _ => by simp at h
  | _ :: _, [], _, _, _, _, _, h, _, _ => by simp at h
  | m :: ms, c :: cs, 0, 0, k, _, _, _, _, _ => rfl
  | m :: ms, c :: cs, 0, j + 1, k, nd, h1, h2, h3, h4 => by
    simp at h1 h2; subst h1 h2
    rw [ioIx, List.nodup_cons] at nd
    exact absurd (ioIx_mem (by simpa using h3) (by simpa using h4)) nd.1
  | m :: ms, c :: cs, i + 1, 0, k, nd, h1, h2, h3, h4 => by
    simp at h3 h4; subst h3 h4
    rw [ioIx, List.nodup_cons] at nd
    exact absurd (ioIx_mem (by simpa using h1) (by simpa using h2)) nd.1
  | m :: ms, c :: cs, i + 1, j + 1, k, nd, h1, h2, h3, h4 => by
    have nd' : (ioIx ms cs).Nodup := by
      cases m <;> first
        | (cases c <;> first | exact (List.nodup_cons.mp nd).2 | exact nd)
    have := ioIx_inj (i := i) (j := j) nd' (by simpa using h1) (by simpa using h2) (by simpa using h3) (by simpa using h4)
    omega
theorem argsFit_of {ms : List PM} {cs : List E} (h : argsFit M ms cs = true) : argFit M ms cs = true ∧ (ioIx ms cs).Nodup ∧ ∀ i ∈ boIx ms cs, i ∉ ioIx ms cs := by
  unfold argsFit at h
  rw [Bool.and_eq_true, Bool.and_eq_true, decide_eq_true_eq, List.all_eq_true] at h
  exact ⟨h.1.1, h.1.2, fun i hi => by simpa using h.2 i hi⟩
theorem apart_of {K : PySem.W.Frag} (env : EnvOk K R0 M σ H ρ) {ms : List PM} {cs : List E} {ds ds' : List D} {vs : List V} (ha : ArgL K (Rr R0 M ρ σ) σ H cs ds vs) (hf : argsFit M ms cs = true) (hr : reread cs ds ρ = some ds') : IoApart ms ds' vs := by
  obtain ⟨f1, f2, f3⟩ := argsFit_of hf
  intro i j a h1 h2 h3
  obtain ⟨c1, d1, e1, e2, e3, e4, _⟩ := argL_at ha f1 hr h2
  obtain ⟨c2, d2, g1, g2, g3, g4, g5⟩ := argL_at ha f1 hr h3
  obtain ⟨k, rfl, ho⟩ := e4 h1
  have hk : σ[k]? = some (some (V.ref a)) ∧ gv ρ k = some d1 := by
    rcases e3 with ⟨k', ek, x1, x2⟩ | ⟨hb, _⟩
    · cases ek; exact ⟨x1, x2⟩
    · cases hb
  have own1 : OwnI M ρ σ k a := ⟨ho, ⟨d1, hk.2⟩, hk.1⟩
  refine ⟨fun hj => ?_, fun d hj hd hm => ?_⟩
  · obtain ⟨k2, rfl, ho2⟩ := g4 hj
    have hk2 : σ[k2]? = some (some (V.ref a)) ∧ gv ρ k2 = some d2 := by
      rcases g3 with ⟨k', ek, x1, x2⟩ | ⟨hb, _⟩
      · cases ek; exact ⟨x1, x2⟩
      · cases hb
    have := env.dist k k2 a own1 ⟨ho2, ⟨d2, hk2.2⟩, hk2.1⟩
    subst this
    exact ioIx_inj f2 h1 e1 hj g1
  · rw [g2] at hd
    obtain rfl := Option.some.inj hd
    rcases g3 with ⟨k2, rfl, x1, x2⟩ | ⟨hb, r⟩
    · have hns := g5 hj k2 rfl
      have hb : k2 ∈ boIx ms cs := boIx_mem hj g1
      have hi : k ∈ ioIx ms cs := ioIx_mem h1 e1
      by_cases ho2 : (md M k2).isOwn = true
      · have := env.dist k k2 a own1 ⟨ho2, ⟨_, x2⟩, x1⟩
        subst this
        exact f3 k hb hi
      · have hbor : md M k2 = .bor := by
          cases e : md M k2 with
          | shr => exact absurd e hns
          | bor => rfl
          | own => rw [e] at ho2; exact absurd rfl ho2
          | io => rw [e] at ho2; exact absurd rfl ho2
        exact env.bor k2 a _ hbor x1 x2 hm ⟨k, own1⟩
    · cases r with
      | lst hl _ _ =>
        rcases hl with ⟨_, n⟩ | ⟨o, _, _, hk2, _⟩
        · exact n (.inr ⟨k, own1⟩)
        · exact env.domR (.inr ⟨k, own1⟩) (env.kf a o hk2)
      | tup _ _ _ => cases hm
end
end Ev
end -- EvX3

section -- EvX4
set_option Elab.async false
set_option linter.all false
set_option maxRecDepth 100000
set_option maxHeartbeats 1000000
/-! EvX4: what a caller has behind a call; the rule of a call. -/
namespace Ev
open PySem PySem.Spec PyProof.Rows L2
section
variable {X : Cx} {R0 : Addr → Prop} {M : List Mode} {xr : XR} {W : WX} {q qa qb qc : Bool} {fl fa fb fc : Fl} {σ : L2.St} {H H1 H2 H' : Hp} {ρ ρ1 ρ2 : Env} {d : D} {v : V} {Q : VK}
theorem ioPairs_shr {ms : List PM} {c : E} {cs : List E} {outs : List D} : ioPairs (.shr :: ms) (c :: cs) outs = ioPairs ms cs outs := by
  cases c <;> cases outs <;> rfl
theorem ioPairs_bor {ms : List PM} {c : E} {cs : List E} {outs : List D} : ioPairs (.bor :: ms) (c :: cs) outs = ioPairs ms cs outs := by
  cases c <;> cases outs <;> rfl
theorem ioPairs_nb {ms : List PM} {c : E} {cs : List E} {outs : List D} (h : ¬ ∃ i, c = .bvar i) : ioPairs (.io :: ms) (c :: cs) outs = ioPairs ms cs outs := by
  cases c <;> first | (cases outs <;> rfl) | exact absurd ⟨_, rfl⟩ h
theorem ioPairs_none {ms : List PM} {i : Nat} {cs : List E} : ioPairs (.io :: ms) (.bvar i :: cs) [] = ioPairs ms cs [] := rfl
theorem ioPairs_bv {ms : List PM} {i : Nat} {cs : List E} {d : D} {outs : List D} : ioPairs (.io :: ms) (.bvar i :: cs) (d :: outs) = (i, d) :: ioPairs ms cs outs := rfl
theorem ioIx_shr {ms : List PM} {c : E} {cs : List E} : ioIx (.shr :: ms) (c :: cs) = ioIx ms cs := by cases c <;> rfl
theorem ioIx_bor {ms : List PM} {c : E} {cs : List E} : ioIx (.bor :: ms) (c :: cs) = ioIx ms cs := by cases c <;> rfl
theorem ioIx_nb {ms : List PM} {c : E} {cs : List E} (h : ¬ ∃ i, c = .bvar i) : ioIx (.io :: ms) (c :: cs) = ioIx ms cs := by
  cases c <;> first | rfl | exact absurd ⟨_, rfl⟩ h
theorem ioPairs_nil {m : List PM} {outs : List D} : ioPairs m [] outs = [] := by
  cases m with
  | nil => unfold ioPairs; rfl
  | cons m ms => cases m <;> (unfold ioPairs; rfl)
theorem ioPairs_fst : ∀ {ms : List PM} {cs : List E} {outs : List D} {p : Nat × D}, p ∈ ioPairs ms cs outs → p.1 ∈ ioIx ms cs
  | [], _, _, _, h => by unfold ioPairs at h; cases h
  | _ :: ms, [], _, _, h => by rw [ioPairs_nil] at h; cases h
  | .shr :: ms, c :: cs, outs, p, h => by rw [ioPairs_shr] at h; rw [ioIx_shr]; exact ioPairs_fst h
  | .bor :: ms, c :: cs, outs, p, h => by rw [ioPairs_bor] at h; rw [ioIx_bor]; exact ioPairs_fst h
  | .io :: ms, c :: cs, outs, p, h => by
    by_cases hb : ∃ i, c = .bvar i
    · obtain ⟨i, rfl⟩ := hb
      rw [ioIx]
      cases outs with
      | nil => rw [ioPairs_none] at h; exact List.mem_cons_of_mem _ (ioPairs_fst h)
      | cons d outs =>
        rw [ioPairs_bv] at h
        rcases List.mem_cons.mp h with e | h
        · subst e; exact List.mem_cons_self
        · exact List.mem_cons_of_mem _ (ioPairs_fst h)
    · rw [ioPairs_nb hb] at h; rw [ioIx_nb hb]; exact ioPairs_fst h
theorem ioPairs_nodup : ∀ {ms : List PM} {cs : List E} {outs : List D}, (ioIx ms cs).Nodup → ((ioPairs ms cs outs).map (·.1)).Nodup
  | [], _, _, _ => by unfold ioPairs; exact List.nodup_nil
  | _ :: ms, [], _, _ => by rw [ioPairs_nil]; exact List.nodup_nil
  | .shr :: ms, c :: cs, outs, h => by rw [ioPairs_shr]; rw [ioIx_shr] at h; exact ioPairs_nodup h
  | .bor :: ms, c :: cs, outs, h => by rw [ioPairs_bor]; rw [ioIx_bor] at h; exact ioPairs_nodup h
  | .io :: ms, c :: cs, outs, h => by
    by_cases hb : ∃ i, c = .bvar i
    · obtain ⟨i, rfl⟩ := hb
      rw [ioIx, List.nodup_cons] at h
      cases outs with
      | nil => rw [ioPairs_none]; exact ioPairs_nodup h.2
      | cons d outs =>
        rw [ioPairs_bv, List.map_cons, List.nodup_cons]
        refine ⟨fun z => ?_, ioPairs_nodup h.2⟩
        obtain ⟨p, hp, e⟩ := List.mem_map.mp z
        exact h.1 (by rw [← show p.1 = i from e]; exact ioPairs_fst hp)
    · rw [ioPairs_nb hb]; rw [ioIx_nb hb] at h; exact ioPairs_nodup h
/-- a pair that goes back is well held -/
theorem ioPairs_ok {K : PySem.W.Frag} {R R2 : Addr → Prop} : ∀ {ms : List PM} {cs : List E} {outs ds : List D} {vs : List V}, ArgL K R σ H cs ds vs → OutsOk K R2 H' ms outs vs → argFit M ms cs = true → ∀ {j : Nat} {d : D}, (j, d) ∈ ioPairs ms cs outs →
    ∃ v, σ[j]? = some (some v) ∧ OwnOk K R2 H' d v ∧ (md M j).isOwn = true
  | _, _, _, _, _, .nil, .nil, _, _, _, h => by unfold ioPairs at h; cases h
  | _, _, _, _, _, .bv (i := i) hv t, .io o os, hf, j, d, h => by
    obtain ⟨k, e, ho, hf'⟩ := argFit_io hf
    cases e
    rw [ioPairs_bv] at h
    rcases List.mem_cons.mp h with e | h
    · cases e
      exact ⟨_, hv, o, ho⟩
    · exact ioPairs_ok t os hf' h
  | _, _, _, _, _, .val hb r t, .io o os, hf, j, d, h => by
    obtain ⟨k, e, _⟩ := argFit_io hf
    exact absurd e (isBv_of hb k)
  | m :: ms, _, _, _, _, .bv hv t, .other hm os, hf, j, d, h => by
    cases m with
    | io => exact absurd rfl hm
    | shr => rw [ioPairs_shr] at h; exact ioPairs_ok t os (argFit_tail hf) h
    | bor => rw [ioPairs_bor] at h; exact ioPairs_ok t os (argFit_tail hf) h
  | m :: ms, _, _, _, _, .val hb r t, .other hm os, hf, j, d, h => by
    cases m with
    | io => exact absurd rfl hm
    | shr => rw [ioPairs_shr] at h; exact ioPairs_ok t os (argFit_tail hf) h
    | bor => rw [ioPairs_bor] at h; exact ioPairs_ok t os (argFit_tail hf) h
/-- each name that is handed over to be changed has its pair; the names are those -/
theorem ioPairs_has {K : PySem.W.Frag} {R2 : Addr → Prop} : ∀ {ms : List PM} {cs : List E} {outs : List D} {vs : List V}, OutsOk K R2 H' ms outs vs → argFit M ms cs = true → ∀ {i k : Nat}, ms[i]? = some PM.io → cs[i]? = some (E.bvar k) → ∃ d, (k, d) ∈ ioPairs ms cs outs
  | _, _, _, _, .nil, _, i, k, h, _ => by simp at h
  | _, [], _, _, .io _ _, _, i, k, _, h => by simp at h
  | _, [], _, _, .other _ _, _, i, k, _, h => by simp at h
  | _, c :: cs, _, _, .io (d := d) o os, hf, 0, k, _, h => by
    simp at h; subst h
    exact ⟨d, by rw [ioPairs_bv]; exact List.mem_cons_self⟩
  | _, c :: cs, _, _, .io (d := d) (ds := ds) o os, hf, i + 1, k, h1, h2 => by
    obtain ⟨j, rfl, _, hf'⟩ := argFit_io hf
    obtain ⟨d', hd⟩ := ioPairs_has (cs := cs) os hf' (i := i) (k := k) (by simpa using h1) (by simpa using h2)
    exact ⟨d', by rw [ioPairs_bv]; exact List.mem_cons_of_mem _ hd⟩
  | m :: ms, c :: cs, outs, _, .other hm os, hf, 0, k, h, _ => by simp at h; exact absurd h hm
  | m :: ms, c :: cs, outs, _, .other hm os, hf, i + 1, k, h1, h2 => by
    obtain ⟨d', hd⟩ := ioPairs_has (cs := cs) os (argFit_tail hf) (i := i) (k := k) (by simpa using h1) (by simpa using h2)
    refine ⟨d', ?_⟩
    cases m with
    | io => exact absurd rfl hm
    | shr => rw [ioPairs_shr]; exact hd
    | bor => rw [ioPairs_bor]; exact hd
/-- what the callee may change is what a name of the caller holds alone -/
theorem io_own {K : PySem.W.Frag} {ms : List PM} {cs : List E} {ds ds' : List D} {vs : List V} (ha : ArgL K (Rr R0 M ρ σ) σ H cs ds vs) (hf : argFit M ms cs = true) (hr : reread cs ds ρ = some ds') {a : Addr} (h : IoA ms vs a) : ∃ (i k : Nat), ms[i]? = some PM.io ∧ cs[i]? = some (E.bvar k) ∧ OwnI M ρ σ k a := by
  obtain ⟨i, h1, h2⟩ := h
  obtain ⟨c, d', e1, e2, e3, e4, _⟩ := argL_at ha hf hr h2
  obtain ⟨k, rfl, ho⟩ := e4 h1
  refine ⟨i, k, h1, e1, ho, ?_⟩
  rcases e3 with ⟨k', ek, x1, x2⟩ | ⟨hb, _⟩
  · cases ek; exact ⟨⟨d', x2⟩, x1⟩
  · cases hb
/-- a name handed over holds something -/
theorem live_of {K : PySem.W.Frag} {R : Addr → Prop} : ∀ {ms : List PM} {cs : List E} {ds ds' : List D} {vs : List V} {j : Nat}, ArgL K R σ H cs ds vs → argFit M ms cs = true → reread cs ds ρ = some ds' → j ∈ ioIx ms cs → ∃ d, gv ρ j = some d
  | [], _, _, _, _, j, _, _, _, h => by unfold ioIx at h; cases h
  | m :: ms, _, _, _, _, j, .nil, _, _, h => by cases m <;> (unfold ioIx at h; cases h)
  | m :: ms, _, _, _, _, j, .bv (i := i) (es := es) hv t, hf, hr, h => by
    obtain ⟨d', r', rfl, hr', _, hg⟩ := reread_cons hr
    cases m with
    | shr => rw [ioIx_shr] at h; exact live_of t (argFit_tail hf) hr' h
    | bor => rw [ioIx_bor] at h; exact live_of t (argFit_tail hf) hr' h
    | io =>
      rw [ioIx] at h
      rcases List.mem_cons.mp h with e | h
      · subst e; exact ⟨d', hg _ rfl⟩
      · exact live_of t (argFit_tail hf) hr' h
  | m :: ms, _, _, _, _, j, .val hb r t, hf, hr, h => by
    obtain ⟨d', r', rfl, hr', _, hg⟩ := reread_cons hr
    cases m with
    | shr => rw [ioIx_shr] at h; exact live_of t (argFit_tail hf) hr' h
    | bor => rw [ioIx_bor] at h; exact live_of t (argFit_tail hf) hr' h
    | io =>
      obtain ⟨i, e, _⟩ := argFit_io hf
      exact absurd e (isBv_of hb i)
/-- the caller behind a call -/
theorem call_mv {K : PySem.W.Frag} {ms : List PM} {cs : List E} {ds ds' outs : List D} {vs : List V} (env : EnvOk K R0 M σ H ρ) (ha : ArgL K (Rr R0 M ρ σ) σ H cs ds vs) (hf : argsFit M ms cs = true) (hr : reread cs ds ρ = some ds') (kf : KF K H') (fr : CFrm ms vs H H')
    (os : OutsOk K (Rr R0 M ρ σ) H' ms outs vs) : Mv K R0 M σ false H ρ H' (putIO ms cs outs ρ) := by
  obtain ⟨f1, f2, f3⟩ := argsFit_of hf
  rw [putIO_eq]
  have hlt : ∀ p ∈ ioPairs ms cs outs, p.1 < ρ.length := fun p hp => by
    obtain ⟨v, hv, _⟩ := ioPairs_ok (j := p.1) (d := p.2) ha os f1 hp
    rw [env.len]
    exact (List.getElem?_eq_some_iff.mp hv).1
  have gp := fun j => gv_putP (ioPairs ms cs outs) ρ j (ioPairs_nodup f2) hlt
  have hsame : SameLive ρ (putP (ioPairs ms cs outs) ρ) := by
    refine ⟨putP_len _ _, fun j => ?_⟩
    by_cases hj : ∃ d, (j, d) ∈ ioPairs ms cs outs
    · obtain ⟨d, hd⟩ := hj
      refine ⟨fun _ => ?_, fun _ => ⟨d, (gp j).1 d hd⟩⟩
      have hm : j ∈ ioIx ms cs := ioPairs_fst hd
      -- it was held
      obtain ⟨v, hv, ho, hmo⟩ := ioPairs_ok ha os f1 hd
      exact live_of ha f1 hr hm
    · rw [(gp j).2 fun d hd => hj ⟨d, hd⟩]
  have keepN : ∀ a o, H a = some o → ¬ Rr R0 M ρ σ a → H' a = some o ∧ ¬ Rr R0 M ρ σ a := fun a o e n => by
    refine ⟨fr.keep a o e fun z => n (.inr ?_), n⟩
    obtain ⟨i, k, _, _, hk⟩ := io_own ha f1 hr z
    exact ⟨k, hk⟩
  refine ⟨⟨?_, fun j d hd => ?_, fun i j a h1 h2 => ?_, fun i a d hm hs hd hu => ?_, fun a h => fr.there a (env.dom a h), kf⟩, ⟨fun a o e n => fr.keep a o e fun z => n ?_, fr.there⟩, hsame, fun z => by cases z⟩
  · rw [putP_len, env.len]
  · rw [hsame.rr]
    by_cases hj : ∃ d', (j, d') ∈ ioPairs ms cs outs
    · obtain ⟨d', hd'⟩ := hj
      rw [(gp j).1 d' hd'] at hd
      obtain rfl := Option.some.inj hd
      obtain ⟨v, hv, ho, hmo⟩ := ioPairs_ok ha os f1 hd'
      refine ⟨v, hv, ?_⟩
      cases e : md M j <;> rw [e] at hmo
      · cases hmo
      · cases hmo
      · exact ho
      · exact ho
    · rw [(gp j).2 fun d hd => hj ⟨d, hd⟩] at hd
      obtain ⟨v, hv, so⟩ := env.slot j d hd
      refine ⟨v, hv, ?_⟩
      have hown : (md M j).isOwn = true → OwnOk K (Rr R0 M ρ σ) H d v → OwnOk K (Rr R0 M ρ σ) H' d v := fun hmo so => by
        cases d with
        | lst xs =>
          obtain ⟨a, ws, rfl, h1, t, z⟩ := so
          refine ⟨a, ws, rfl, fr.keep a _ h1 fun zz => ?_, t.mono keepN, z⟩
          obtain ⟨i, k, h2, h3, h4⟩ := io_own ha f1 hr zz
          have := env.dist k j a h4 ⟨hmo, ⟨_, hd⟩, hv⟩
          subst this
          obtain ⟨d', hd'⟩ := ioPairs_has (M := M) os f1 h2 h3
          exact hj ⟨d', hd'⟩
        | _ => exact so.elim
      cases em : md M j with
      | shr => rw [em] at so; exact Rep.mono keepN so
      | bor =>
        rw [em] at so
        cases d with
        | lst xs =>
          obtain ⟨a, ws, rfl, h1, t, z⟩ := so
          have hno : ¬ OwnA M ρ σ a := env.bor j a _ em hv hd rfl
          refine ⟨a, ws, rfl, ?_, t.mono keepN, z⟩
          have hk : ∀ o, H a = some o → H' a = some o := fun o e => fr.keep a o e fun zz => hno (by obtain ⟨i, k, _, _, h4⟩ := io_own ha f1 hr zz; exact ⟨k, h4⟩)
          rcases h1 with (h1 | ⟨o, h1⟩) | h1
          · exact .inl (.inl (hk _ h1))
          · exact .inl (.inr ⟨o, hk _ h1⟩)
          · exact .inr h1
        | _ => exact Rep.mono keepN so
      | own => rw [em] at so; exact hown (by rw [em]; rfl) so
      | io => rw [em] at so; exact hown (by rw [em]; rfl) so
  · exact env.dist i j a (hsame.own.mp h1) (hsame.own.mp h2)
  · rw [hsame.ownA]
    by_cases hj : ∃ d', (i, d') ∈ ioPairs ms cs outs
    · obtain ⟨d', hd'⟩ := hj
      obtain ⟨v, hv, ho, hmo⟩ := ioPairs_ok ha os f1 hd'
      rw [hm] at hmo; cases hmo
    · rw [(gp i).2 fun d hd => hj ⟨d, hd⟩] at hd
      exact env.bor i a d hm hs hd hu
  · obtain ⟨i, k, _, _, hk⟩ := io_own ha f1 hr z
    exact ⟨k, hk⟩
/-- a call that changes no name is quiet -/
theorem ioPairs_no : ∀ {ms : List PM} {cs : List E} {outs : List D}, PM.io ∉ ms → ioPairs ms cs outs = []
  | [], _, _, _ => by unfold ioPairs; rfl
  | m :: ms, [], _, _ => ioPairs_nil
  | .shr :: ms, c :: cs, outs, h => by rw [ioPairs_shr]; exact ioPairs_no fun z => h (List.mem_cons_of_mem _ z)
  | .bor :: ms, c :: cs, outs, h => by rw [ioPairs_bor]; exact ioPairs_no fun z => h (List.mem_cons_of_mem _ z)
  | .io :: ms, c :: cs, outs, h => absurd List.mem_cons_self h
theorem call_quiet {ms : List PM} {cs : List E} {outs : List D} {vs : List V} (h : PM.io ∉ ms) (fr : CFrm ms vs H H') : Same H H' ∧ putIO ms cs outs ρ = ρ :=
  ⟨fun a o e => fr.keep a o e fun ⟨i, z, _⟩ => h (List.mem_of_getElem? z), by rw [putIO_eq, ioPairs_no h]; rfl⟩
/-- the evaluator's call -/
def callO (ms : List PM) (cs : List E) (cfi : List D → COut) (xs : List D) (ρ : Env) : Out D := match reread cs xs ρ with
  | none => .stuck
  | some xs => match cfi xs with
    | .ok d outs => .ok d (putIO ms cs outs ρ)
    | .exc c p outs => .exc c p (putIO ms cs outs ρ)
    | .stuck => .stuck
/-- from the arguments to the callee's promise -/
theorem call_core {K : PySem.W.Frag} {ms : List PM} {fresh : Bool} {cfi : List D → COut} {cs : List E} {gs : Env → Out (List D)} (hf : argsFit M ms cs = true) (hfl : fl = .fresh → fresh = true)  (hfb : fl ≠ .bor) (hq : qb = true → q = true ∧ PM.io ∉ ms) (env : EnvOk K R0 M σ H ρ)
    (h : Rest K R0 M xr W qb fl σ H ρ Q ((gs ρ).bind (callO ms cs cfi))) : tA K R0 M xr W q cs gs σ H fun vs H1 => spF K xr ms fresh cfi (vs ++ []) H1 Q (WE W σ) := by
  refine ⟨ρ, env, ?_⟩
  cases e : gs ρ with
  | stuck => rw [e] at h; exact h.elim
  | exc c p ρ1 => rw [e] at h; exact h
  | ok ds ρ1 =>
    rw [e] at h
    dsimp only [Out.bind] at h
    unfold callO at h
    intro vs H1 m al
    rw [List.append_nil]
    cases e2 : reread cs ds ρ1 with
    | none => rw [e2] at h; exact h.elim
    | some ds' =>
      rw [e2] at h
      dsimp only at h
      have al' := al
      rw [← m.rr] at al'
      refine ⟨Rr R0 M ρ1 σ, ds', args_of m.env al' (argsFit_of hf).1 e2, fun a z => m.env.domR z, m.env.kf, apart_of m.env al' hf e2, ?_⟩
      cases e3 : cfi ds' with
      | stuck => rw [e3] at h; exact h.elim
      | ok d outs =>
        rw [e3] at h
        intro v H2 kf fr os vo
        have m2 := call_mv m.env al' hf e2 kf fr os
        have mm : Mv K R0 M σ qb H ρ H2 (putIO ms cs outs ρ1) := by
          have mm := m.trans m2
          refine ⟨mm.env, mm.frm, mm.live, fun z => ?_⟩
          obtain ⟨z1, z2⟩ := hq z
          obtain ⟨y1, y2⟩ := call_quiet (ρ := ρ1) (cs := cs) (outs := outs) z2 fr
          exact ⟨(m.quiet z1).1.trans y1, y2.trans (m.quiet z1).2⟩
        refine h v H2 mm ?_
        rw [m.rr] at vo
        have hR : ∀ a, Rr R0 M ρ σ a → H1 a ≠ none := fun a z => m.frm.there a (env.domR z)
        cases fresh with
        | true =>
          rw [if_pos rfl] at vo
          cases fl with
          | fresh =>
            cases d with
            | lst xs =>
              obtain ⟨a, ws, e, h0, h1, t, z⟩ := vo
              exact ⟨a, ws, e, m.was h0, h1, t, z⟩
            | _ => exact vo
          | shr => exact NewOk.rep vo hR
          | bor => exact absurd rfl hfb
        | false =>
          rw [if_neg Bool.false_ne_true] at vo
          cases fl with
          | fresh => cases hfl rfl
          | shr => exact vo
          | bor => exact absurd rfl hfb
      | exc c p outs =>
        rw [e3] at h
        intro cv dx H2 kf fr os xx
        have m2 := call_mv m.env al' hf e2 kf fr os
        rw [m.rr] at xx
        exact h cv dx H2 ((m.trans m2).weak fun z => by cases z) xx
theorem x_call {CX : CXT} {k : Nat} {f : Addr} {fd : FuncData} {ps : List Str} {ms : List PM} {fresh : Bool} {cfi : List D → COut} {cs : List E} {gs : Env → Out (List D)} {x : Str} {p pos : Pos} {e : Expr} {es : List Expr}
    (F : FnOk X.prog X.w X.K X.mg X.base CX k f fd ps (spF X.K xr ms fresh cfi)) (hr : Room k X.A) (hg : Gl X x) (hm : X.mg x = some (.ref f)) (hk : PySem.W.keepIn X.K (.ref f) = true) (hb : Binds X.K fd ps []) (hx : ∀ σ, PassesAt CX X σ (WE W σ))
    (ha : PA X (e :: es) (tA X.K R0 M xr W q cs gs)) (hf : argsFit M ms cs = true) (hfl : fl = .fresh → fresh = true) (hfb : fl ≠ .bor) (hq : qb = true → q = true ∧ PM.io ∉ ms) (hdb : (x == ("__debug__" : Str)) = false) (he : starEach (e :: es) X.env = (false, eval e X.env) :: starEach es X.env) (hpl : (backTo pos (starEach es X.env)).any (·.1) = false) :
    PE X (.Call (.Name x p) (e :: es) [] pos) (tO X.K R0 M xr W qb fl fun ρ => (gs ρ).bind (callO ms cs cfi)) :=
  PE.mono (pe_callSD (dvs := []) F hr hg hm hk hb .nil hx ha hdb he hpl) fun σ H Q ⟨ρ, env, h⟩ => call_core hf hfl hfb hq env h
theorem x_call0 {CX : CXT} {k : Nat} {f : Addr} {fd : FuncData} {ps : List Str} {ms : List PM} {fresh : Bool} {cfi : List D → COut} {x : Str} {p pos : Pos}
    (F : FnOk X.prog X.w X.K X.mg X.base CX k f fd ps (spF X.K xr ms fresh cfi)) (hr : Room k X.A) (hg : Gl X x) (hm : X.mg x = some (.ref f)) (hk : PySem.W.keepIn X.K (.ref f) = true) (hb : Binds X.K fd ps []) (hx : ∀ σ, PassesAt CX X σ (WE W σ))
    (hf : argsFit M ms [] = true) (hfl : fl = .fresh → fresh = true) (hfb : fl ≠ .bor) (hq : qb = true → PM.io ∉ ms) (hdb : (x == ("__debug__" : Str)) = false) :
    PE X (.Call (.Name x p) [] [] pos) (tO X.K R0 M xr W qb fl fun ρ => (Out.ok [] ρ).bind (callO ms [] cfi)) := by
  refine ⟨fun pins s σ H Q I ⟨ρ, env, h⟩ => ?_⟩
  refine wpAny_Call_Name_kw (ld_glob I hg hm ?_ hdb)
  refine PySem.W.callWith_K0 I.kIn hk ?_
  obtain ⟨ρ', env', h'⟩ := call_core (q := true) (gs := fun ρ => .ok [] ρ) hf hfl hfb (fun z => ⟨rfl, hq z⟩) env h
  exact run_fnSD (us := []) (vs := []) (dvs := []) (ds := []) F hr hb .nil (hx σ) I .nil (h' [] H (.refl env') .nil)
end
end Ev
end -- EvX4

section -- EvX5
set_option Elab.async false
set_option linter.all false
set_option maxRecDepth 100000
set_option maxHeartbeats 1000000
/-! EvX5: what is walked; targets; comprehensions. -/
namespace Ev
open PySem PySem.Spec PyProof.Rows L2

/-! ### what is walked -/
structure Src (K : PySem.W.Frag) (R O : Addr → Prop) (H0 : Hp) (xs : List D) (J : It) (G : Hp → Prop) : Prop where
  walk : Walk J xs.length G (fun i H v H' => H' = H ∧ ∃ d, xs[i]? = some d ∧ Rep K R H0 d v)
  stab : ∀ H', (∀ b o, H0 b = some o → ¬ O b → H' b = some o) → G H'
def ItOk (K : PySem.W.Frag) (R O : Addr → Prop) (H : Hp) (xs : List D) (J : It) : Prop := xs.length ≤ LIM ∧ ∃ G : Hp → Prop, Src K R O H xs J G
section
variable {K : PySem.W.Frag} {R O : Addr → Prop} {H H' : Hp} {xs : List D} {a : Addr} {vs : List V} {d : D} {v : V}
theorem it_lst (h : LstAt K O H a vs) (hl : RepL K R H xs vs) (hz : xs.length ≤ LIM) : ItOk K R O H xs (Itl K a) := by
  refine ⟨hz, fun H => SqL K H a vs, ?_, fun H' hk => (h.mono (R' := fun _ => False) fun b o e n => ⟨hk b o e n, id⟩).sq⟩
  have := walk_list (K := K) (a := a) (xs := vs)
  rw [← hl.length] at this
  exact this.mono (fun H h => h) fun i H x H' _ h y => ⟨y.1, hl.get' y.2⟩
theorem it_tup (h : TupAt K O H a vs) (hl : RepL K R H xs vs) (hz : xs.length ≤ LIM) : ItOk K R O H xs (Itt K a) := by
  refine ⟨hz, fun H => SqT K H a vs, ?_, fun H' hk => (h.mono (R' := fun _ => False) fun b o e n => ⟨hk b o e n, id⟩).sq⟩
  have := walk_tup (K := K) (a := a) (xs := vs)
  rw [← hl.length] at this
  exact this.mono (fun H h => h) fun i H x H' _ h y => ⟨y.1, hl.get' y.2⟩
theorem it_str {s : List Nat} (hs : StrB s) : ItOk K R O H (s.map fun c => .str [c]) (Its (mkS s)) := by
  refine ⟨by simpa using hs.1, fun _ => True, ?_, fun _ _ => trivial⟩
  have := walk_str (z := mkS s)
  have e : (mkS s).cps.size = (s.map fun c => D.str [c]).length := by simp [mkS]
  rw [e] at this
  refine this.mono (fun _ h => h) fun i H x H' hi _ y => ⟨y.1, ?_⟩
  obtain ⟨c, hc, rfl⟩ := y.2
  have hc' : s[i]? = some c := by simpa [mkS] using hc
  refine ⟨.str [c], by simp [hc'], ?_⟩
  have hm : c ∈ s := List.mem_of_getElem? hc'
  exact .str [c] ⟨by simp [LIM], fun z hz => by simp at hz; subst hz; exact hs.2 _ hm⟩
theorem it_rng {lo hi : Int} (h : hi - lo ≤ LIM) : ItOk K R O H (rangeD lo hi) (Itr lo (hi - lo).toNat) := by
  refine ⟨by simp [rangeD, LIM] at h ⊢; omega, fun _ => True, ?_, fun _ _ => trivial⟩
  have := walk_range (lo := lo) (n := (hi - lo).toNat)
  have e : (hi - lo).toNat = (rangeD lo hi).length := by simp [rangeD]
  rw [e] at this ⊢
  refine this.mono (fun _ h => h) fun i H x H' hi2 _ y => ⟨y.1, .int (lo + i), ?_, ?_⟩
  · unfold rangeD
    rw [List.getElem?_map, List.getElem?_range (by rw [← e] at hi2; exact hi2)]
    rfl
  · rw [y.2]; exact .int _
/-- the walk that fits a value -/
def JV (K : PySem.W.Frag) (H : Hp) (v : V) (J : It) : Prop := (∃ a, v = .ref a ∧ (∃ xs, SqL K H a xs) ∧ J = Itl K a) ∨ (∃ a, v = .ref a ∧ (∃ xs, SqT K H a xs) ∧ J = Itt K a) ∨ ∃ x, v = .str x ∧ J = Its x
theorem it_rep (ho : ∀ b, O b → R b) (r : Rep K R H d v) (hx : itemsD d = some xs) : ∃ J, JV K H v J ∧ ItOk K R O H xs J := by
  cases r with
  | non => cases hx
  | bl b => cases hx
  | int i => cases hx
  | str s z => cases hx; exact ⟨_, .inr (.inr ⟨_, rfl, rfl⟩), it_str z⟩
  | tup h t z => cases hx; exact ⟨_, .inr (.inl ⟨_, rfl, ⟨_, h.sq⟩, rfl⟩), it_tup (h.mono fun b o e n => ⟨e, fun z => n (ho b z)⟩) t z⟩
  | lst h t z => cases hx; exact ⟨_, .inl ⟨_, rfl, ⟨_, h.sq⟩, rfl⟩, it_lst (h.mono fun b o e n => ⟨e, fun z => n (ho b z)⟩) t z⟩
theorem it_bor (ho : ∀ b, O b → R b) (kf : KF K H) (r : BorOk K R H d v) (hx : itemsD d = some xs) (hn : ∀ a, v = .ref a → isMut d = true → ¬ O a) : ∃ J, JV K H v J ∧ ItOk K R O H xs J := by
  cases d with
  | lst ds =>
    obtain ⟨a, vs, rfl, h, t, z⟩ := r
    cases hx
    refine ⟨_, .inl ⟨_, rfl, ⟨_, h⟩, rfl⟩, it_lst ?_ t z⟩
    rcases h with h | h
    · exact .inl ⟨h, hn a rfl rfl⟩
    · exact .inr h
  | _ => exact it_rep ho r hx
end
def iAny (K : PySem.W.Frag) (te : TE) : TI := fun σ H R => te σ H fun v H1 => ∃ J, JV K H1 v J ∧ R J H1
theorem pi_any {X : Cx} {tg l : Expr} {tl : TE} (hl : PE X l tl) : PI X tg l (iAny X.K tl) := by
  refine ⟨fun pins s σ H R I h => ?_⟩
  refine thn (hl.run pins s σ H _ I h) fun v s1 ⟨x, H1, I1, r1, J, hj, q⟩ => ?_
  rcases hj with ⟨a, e, ⟨xs, hq⟩, ej⟩ | ⟨a, e, ⟨xs, hq⟩, ej⟩ | ⟨z, e, ej⟩
  · subst e ej
    cases r1
    obtain ⟨its, rv, p, hz⟩ := I1.list hq
    refine wpAny_pyIter_list p.isList ?_
    refine ⟨s1.heap.objs.size, [s1.heap.objs.size], _, _, H1, rfl, I1.kept (t' := s1.toks) fun b o e => Heap.get?_push_of_some _ e, turn_list a _, ⟨_, Heap.get?_push_size _ rfl, rfl, rfl⟩, fun b hb => ?_, q⟩
    have e : b = s1.heap.objs.size := by simpa using hb
    subst e
    exact I1.fpOk (Nat.le_refl _) (I1.hok.fresh (Nat.le_refl _))
  · subst e ej
    cases r1
    obtain ⟨its, rv, p, hz⟩ := I1.tuple hq
    refine wpAny_pyIter_tuple (show s1.heap.IsTuple a its.toArray from p) ?_
    refine ⟨s1.heap.objs.size, [s1.heap.objs.size], _, _, H1, rfl, I1.kept (t' := s1.toks) fun b o e => Heap.get?_push_of_some _ e, turn_tuple a _, ⟨_, Heap.get?_push_size _ rfl, rfl, rfl⟩, fun b hb => ?_, q⟩
    have e : b = s1.heap.objs.size := by simpa using hb
    subst e
    exact I1.fpOk (Nat.le_refl _) (I1.hok.fresh (Nat.le_refl _))
  · subst e ej
    obtain ⟨t, rfl⟩ := r1
    cases ha : z.cps.all (· < 128)
    · exact wpAny_pyIter_wide ha (pi_one (tk := s1.toks) I1 _ (turn_str _ z t "str_iterator" (.inr rfl)) ⟨_, Heap.get?_push_size _ rfl, rfl, rfl⟩ q)
    · exact wpAny_pyIter_ascii ha (pi_one (tk := s1.toks) I1 _ (turn_str _ z t "str_ascii_iterator" (.inl rfl)) ⟨_, Heap.get?_push_size _ rfl, rfl, rfl⟩ q)

/-- a walk by the evaluator's items; M': the modes while it lasts -/
def RestI (K : PySem.W.Frag) (R0 : Addr → Prop) (M M' : List Mode) (xr : XR) (W : WX) (q : Bool) (σ : L2.St) (H : Hp) (ρ : Env) (R : It → Hp → Prop) (o : Out (List D)) : Prop := match o with
  | .ok xs ρ' => ∀ J H', Mv K R0 M σ q H ρ H' ρ' → ItOk K (Rr R0 M ρ σ) (OwnA M' ρ' σ) H' xs J → R J H'
  | .exc c p ρ' => ∀ cv dx H', Mv K R0 M σ false H ρ H' ρ' → xr (Rr R0 M ρ σ) H' c p cv dx → W cv dx σ H'
  | .stuck => False
def tI (K : PySem.W.Frag) (R0 : Addr → Prop) (M M' : List Mode) (xr : XR) (W : WX) (q : Bool) (g : Env → Out (List D)) : TI := fun σ H R => ∃ ρ, EnvOk K R0 M σ H ρ ∧ RestI K R0 M M' xr W q σ H ρ R (g ρ)
/-- while a name's list is walked it is only read -/
def borM (M : List Mode) (i : Nat) : List Mode := if (md M i).isOwn then M.set i .bor else M
section
variable {X : Cx} {R0 : Addr → Prop} {M : List Mode} {xr : XR} {W : WX} {q : Bool} {fl : Fl} {σ : L2.St} {H H' : Hp} {ρ : Env} {g : Env → Out D} {tg l : Expr}
theorem PI.mono {t t' : TI} (h : PI X tg l t) (hm : ∀ σ H R, t' σ H R → t σ H R) : PI X tg l t' := ⟨fun pins s σ H R I q => h.run pins s σ H R I (hm σ H R q)⟩
theorem md_set {i j : Nat} {m : Mode} : md (M.set i m) j = if j = i ∧ i < M.length then m else md M j := by
  unfold md
  rw [List.getD_eq_getElem?_getD, List.getD_eq_getElem?_getD, List.getElem?_set]
  by_cases e : i = j
  · subst e
    rw [if_pos rfl]
    by_cases h : i < M.length
    · rw [if_pos h, if_pos ⟨rfl, h⟩]; rfl
    · rw [if_neg h, if_neg fun z => h z.2, List.getElem?_eq_none (by omega)]
  · rw [if_neg e, if_neg fun z => e z.1.symm]
theorem md_own_lt {i : Nat} (h : (md M i).isOwn = true) : i < M.length := by
  by_cases z : i < M.length
  · exact z
  · unfold md at h
    rw [List.getD_eq_getElem?_getD, List.getElem?_eq_none (by omega)] at h
    cases h
theorem md_borM {i j : Nat} : md (borM M i) j = if j = i ∧ (md M i).isOwn then .bor else md M j := by
  unfold borM
  by_cases h : (md M i).isOwn = true
  · rw [if_pos h, md_set]
    by_cases e : j = i
    · rw [if_pos ⟨e, md_own_lt h⟩, if_pos ⟨e, h⟩]
    · rw [if_neg fun z => e z.1, if_neg fun z => e z.1]
  · rw [if_neg h, if_neg fun z => h z.2]
theorem OwnI.borM {i j : Nat} {a : Addr} (h : OwnI (borM M i) ρ σ j a) : OwnI M ρ σ j a ∧ j ≠ i := by
  obtain ⟨h1, h2, h3⟩ := h
  rw [md_borM] at h1
  by_cases z : j = i ∧ (md M i).isOwn
  · rw [if_pos z] at h1; cases h1
  · rw [if_neg z] at h1
    exact ⟨⟨h1, h2, h3⟩, fun e => z ⟨e, by rw [← e]; exact h1⟩⟩
theorem i_val (hl : PE X l (tO X.K R0 M xr W q fl g)) (hfl : fl ≠ .bor) : PI X tg l (tI X.K R0 M M xr W q fun ρ => (g ρ).bind fun x ρ => lift (itemsD x) ρ) := by
  refine PI.mono (pi_any hl) fun σ H R ⟨ρ, env, h⟩ => ⟨ρ, env, ?_⟩
  dsimp only at h
  cases e : g ρ with
  | stuck => rw [e] at h; exact h.elim
  | exc c p ρ1 => rw [e] at h; exact h
  | ok d ρ1 =>
    rw [e] at h
    dsimp only [Out.bind] at h
    cases e2 : itemsD d with
    | none => rw [e2] at h; exact h.elim
    | some xs =>
      rw [e2] at h
      intro v H1 m vo
      have ho : ∀ b, OwnA M ρ1 σ b → Rr R0 M ρ σ b := fun b z => .inr (m.live.ownA.mp z)
      obtain ⟨J, hj, ok⟩ := it_rep ho (vo.rep hfl fun a z => env.domR z) e2
      exact ⟨J, hj, h J H1 m ok⟩
theorem i_bv {i : Nat} (hl : PE X l (tVar i)) : PI X tg l (tI X.K R0 M (borM M i) xr W true fun ρ => (lift (gv ρ i) ρ).bind fun x ρ => lift (itemsD x) ρ) := by
  refine PI.mono (pi_any hl) fun σ H R ⟨ρ, env, h⟩ => ?_
  dsimp only at h
  cases e : gv ρ i with
  | none => rw [e] at h; exact h.elim
  | some d =>
    rw [e] at h
    dsimp only [lift, Out.bind] at h
    cases e2 : itemsD d with
    | none => rw [e2] at h; exact h.elim
    | some xs =>
      rw [e2] at h
      dsimp only at h
      obtain ⟨v, hv, so⟩ := env.slot i d e
      have ho : ∀ b, OwnA (borM M i) ρ σ b → Rr R0 M ρ σ b := fun b ⟨j, z⟩ => .inr ⟨j, z.borM.1⟩
      obtain ⟨J, hj, ok⟩ := it_bor ho env.kf so.bor e2 fun a ea hm ⟨j, z⟩ => by
        subst ea
        obtain ⟨z1, z2⟩ := z.borM
        cases em : md M i with
        | shr =>
          rw [em] at so
          cases d with
          | lst ds =>
            cases so with
            | lst hl _ _ =>
              rcases hl with ⟨_, n⟩ | ⟨o, _, _, hk, _⟩
              · exact n (.inr ⟨j, z1⟩)
              · exact env.domR (.inr ⟨j, z1⟩) (env.kf _ o hk)
          | dct _ _ => exact nomatch so
          | obj _ _ => exact nomatch so
          | _ => cases hm
        | bor => exact env.bor i a d em hv e hm ⟨j, z1⟩
        | own => exact z2 (env.dist j i a z1 ⟨by rw [em]; rfl, ⟨d, e⟩, hv⟩)
        | io => exact z2 (env.dist j i a z1 ⟨by rw [em]; rfl, ⟨d, e⟩, hv⟩)
      exact ⟨v, hv, J, hj, h J H (.refl env) ok⟩
theorem opRng1 {ds : List D} {d : D} (h : opRng ds = some d) (hl : ds.length = 1) : ∃ j : Int, ds = [.int j] ∧ (-P62 ≤ j ∧ j < P62 ∧ j ≤ LIM) ∧ d = .lst (rangeD 0 j) := by
  match ds, hl with
  | [.int j], _ =>
    replace h : (if -P62 ≤ j ∧ j < P62 ∧ j ≤ (LIM : Int) then some (D.lst (rangeD 0 j)) else none) = some d := h
    by_cases hc : -P62 ≤ j ∧ j < P62 ∧ j ≤ (LIM : Int)
    · rw [if_pos hc] at h; exact ⟨_, rfl, hc, (Option.some.inj h).symm⟩
    · rw [if_neg hc] at h; cases h
  | [.non], _ => cases h
  | [.bl _], _ => cases h
  | [.str _], _ => cases h
  | [.tup _], _ => cases h
  | [.lst _], _ => cases h
  | [.dct _ _], _ => cases h
  | [.obj _ _], _ => cases h
  | [.clo _ _], _ => cases h
theorem opRng2 {ds : List D} {d : D} (h : opRng ds = some d) (hl : ds.length = 2) : ∃ i j : Int, ds = [.int i, .int j] ∧ (-P62 ≤ i ∧ i < P62 ∧ -P62 ≤ j ∧ j < P62 ∧ j - i ≤ LIM) ∧ d = .lst (rangeD i j) := by
  match ds, hl with
  | [a, b], _ =>
    by_cases hi : ∃ i j, a = .int i ∧ b = .int j
    · obtain ⟨i, j, rfl, rfl⟩ := hi
      replace h : (if -P62 ≤ i ∧ i < P62 ∧ -P62 ≤ j ∧ j < P62 ∧ j - i ≤ (LIM : Int) then some (D.lst (rangeD i j)) else none) = some d := h
      by_cases hc : -P62 ≤ i ∧ i < P62 ∧ -P62 ≤ j ∧ j < P62 ∧ j - i ≤ (LIM : Int)
      · rw [if_pos hc] at h; exact ⟨_, _, rfl, hc, (Option.some.inj h).symm⟩
      · rw [if_neg hc] at h; cases h
    · have : opRng [a, b] = none := by
        cases a <;> first | rfl | (cases b <;> first | rfl | exact absurd ⟨_, _, rfl, rfl⟩ hi)
      rw [this] at h; cases h
theorem i_rng1 {a : Expr} {gs : Env → Out (List D)} {p pos : Pos} (hg : Gl X "range") (hm : X.mg "range" = none) (ha : PA X [a] (tL X.K R0 M xr W q gs)) (hlen : ∀ ρ ds ρ', gs ρ = .ok ds ρ' → ds.length = 1) (hs : starEach [a] X.env = [(false, eval a X.env)]) :
    PI X tg (.Call (.Name "range" p) [a] [] pos) (tI X.K R0 M M xr W q fun ρ => ((gs ρ).bind fun xs ρ => lift (opRng xs) ρ).bind fun x ρ => lift (itemsD x) ρ) := by
  refine PI.mono (pi_range1 hg hm ha hs) fun σ H R ⟨ρ, env, h⟩ => ⟨ρ, env, ?_⟩
  dsimp only at h
  cases e : gs ρ with
  | stuck => rw [e] at h; exact h.elim
  | exc c p ρ1 => rw [e] at h; exact h
  | ok ds ρ1 =>
    rw [e] at h
    dsimp only [Out.bind] at h
    intro vs H1 m r
    cases e2 : opRng ds with
    | none => rw [e2] at h; exact h.elim
    | some d =>
      rw [e2] at h
      dsimp only [lift] at h
      obtain ⟨j, rfl, ⟨h1, h2, h3⟩, rfl⟩ := opRng1 e2 (hlen _ _ _ e)
      cases r with
      | cons r t =>
        cases t
        cases r
        refine ⟨j, rfl, h1, h2, ?_⟩
        have := h (Itr 0 (j - 0).toNat) H1 m (it_rng (by simpa using h3))
        rw [Int.sub_zero] at this
        exact this
theorem i_rng2 {a b : Expr} {gs : Env → Out (List D)} {p pos : Pos} (hg : Gl X "range") (hm : X.mg "range" = none) (ha : PA X [a, b] (tL X.K R0 M xr W q gs)) (hlen : ∀ ρ ds ρ', gs ρ = .ok ds ρ' → ds.length = 2) (hs : starEach [a, b] X.env = [(false, eval a X.env), (false, eval b X.env)]) (hs2 : starEach [b] X.env = [(false, eval b X.env)]) :
    PI X tg (.Call (.Name "range" p) [a, b] [] pos) (tI X.K R0 M M xr W q fun ρ => ((gs ρ).bind fun xs ρ => lift (opRng xs) ρ).bind fun x ρ => lift (itemsD x) ρ) := by
  refine PI.mono (pi_range2 hg hm ha hs hs2) fun σ H R ⟨ρ, env, h⟩ => ⟨ρ, env, ?_⟩
  dsimp only at h
  cases e : gs ρ with
  | stuck => rw [e] at h; exact h.elim
  | exc c p ρ1 => rw [e] at h; exact h
  | ok ds ρ1 =>
    rw [e] at h
    dsimp only [Out.bind] at h
    intro vs H1 m r
    cases e2 : opRng ds with
    | none => rw [e2] at h; exact h.elim
    | some d =>
      rw [e2] at h
      dsimp only [lift] at h
      obtain ⟨i, j, rfl, ⟨h1, h2, h3, h4, h5⟩, rfl⟩ := opRng2 e2 (hlen _ _ _ e)
      cases r with
      | cons r t =>
        cases t with
        | cons r2 t =>
          cases t
          cases r
          cases r2
          exact ⟨i, j, rfl, ⟨h1, h2, h3, h4⟩, h (Itr i (j - i).toNat) H1 m (it_rng h5)⟩
end
end Ev
end -- EvX5

section -- EvX6
set_option Elab.async false
set_option linter.all false
set_option maxRecDepth 100000
set_option maxHeartbeats 1000000
/-! EvX6: targets; the block of a comprehension. -/
namespace Ev
open PySem PySem.Spec PyProof.Rows L2
section
variable {K : PySem.W.Frag} {R0 : Addr → Prop} {M M' : List Mode} {σ σ' : L2.St} {H H' : Hp} {ρ ρ' : Env} {d : D} {v : V}
theorem OwnOk.mono {R R' : Addr → Prop} {d : D} {v : V} (so : OwnOk K R H d v) (hk : ∀ a o, H a = some o → ¬ R a → H' a = some o ∧ ¬ R' a) (ha : ∀ a o, v = .ref a → H a = some o → H' a = some o) : OwnOk K R' H' d v := by
  cases d with
  | lst ds => obtain ⟨a, vs, rfl, h1, t, z⟩ := so; exact ⟨a, vs, rfl, ha _ _ rfl h1, t.mono hk, z⟩
  | _ => exact so.elim
theorem BorOk.mono {R R' : Addr → Prop} {d : D} {v : V} (so : BorOk K R H d v) (hk : ∀ a o, H a = some o → ¬ R a → H' a = some o ∧ ¬ R' a) (ha : ∀ a o, v = .ref a → H a = some o → H' a = some o) : BorOk K R' H' d v := by
  cases d with
  | lst ds =>
    obtain ⟨a, vs, rfl, h1, t, z⟩ := so
    refine ⟨a, vs, rfl, ?_, t.mono hk, z⟩
    rcases h1 with (h | ⟨o, h⟩) | h
    · exact .inl (.inl (ha _ _ rfl h))
    · exact .inl (.inr ⟨o, ha _ _ rfl h⟩)
    · exact .inr h
  | _ => exact Rep.mono hk so
theorem SlotOk.mono {R R' : Addr → Prop} {m : Mode} {d : D} {v : V} (so : SlotOk K R H m d v) (hk : ∀ a o, H a = some o → ¬ R a → H' a = some o ∧ ¬ R' a) (ha : m ≠ .shr → ∀ a o, v = .ref a → H a = some o → H' a = some o) : SlotOk K R' H' m d v := by
  cases m with
  | shr => exact Rep.mono hk so
  | bor => exact BorOk.mono so hk (ha (by decide))
  | own => exact OwnOk.mono so hk (ha (by decide))
  | io => exact OwnOk.mono so hk (ha (by decide))
/-- the reference in a slot lies somewhere -/
theorem SlotOk.ref {R : Addr → Prop} {m : Mode} {d : D} {a : Addr} (so : SlotOk K R H m d (.ref a)) : H a ≠ none ∨ ∃ o, K.lookup a = some o := by
  have sq : ∀ {xs}, SqL K H a xs → H a ≠ none ∨ ∃ o, K.lookup a = some o := fun h => by
    rcases h with (h | ⟨o, h⟩) | ⟨o, _, _, h, _⟩
    · exact .inl (by rw [h]; exact fun z => by cases z)
    · exact .inl (by rw [h]; exact fun z => by cases z)
    · exact .inr ⟨o, h⟩
  have sq2 : ∀ {xs}, SqT K H a xs → H a ≠ none ∨ ∃ o, K.lookup a = some o := fun h => by
    rcases h with (h | ⟨o, h⟩) | ⟨o, _, _, h, _⟩
    · exact .inl (by rw [h]; exact fun z => by cases z)
    · exact .inl (by rw [h]; exact fun z => by cases z)
    · exact .inr ⟨o, h⟩
  have rp : ∀ {d}, Rep K R H d (.ref a) → H a ≠ none ∨ ∃ o, K.lookup a = some o := fun h => by
    cases h with
    | tup h _ _ => exact sq2 h.sq
    | lst h _ _ => exact sq h.sq
  have b := so.bor
  cases d with
  | lst ds => obtain ⟨a', vs, e, h1, _⟩ := b; cases e; exact sq h1
  | _ => exact rp b
/-- a held list -/
theorem EnvOk.ownAt (e : EnvOk K R0 M σ H ρ) {i : Nat} {a : Addr} (h : OwnI M ρ σ i a) : ∃ ds vs, gv ρ i = some (.lst ds) ∧ H a = some (.lst vs) ∧ RepL K (Rr R0 M ρ σ) H ds vs := by
  obtain ⟨hm, ⟨d, hd⟩, hs⟩ := h
  obtain ⟨v, hv, so⟩ := e.slot i d hd
  rw [hs] at hv; cases hv
  have so := so.own hm
  cases d with
  | lst ds => obtain ⟨b, vs, eb, h1, t, _⟩ := so; cases eb; exact ⟨ds, vs, hd, h1, t⟩
  | _ => exact so.elim
theorem EnvOk.bor' (e : EnvOk K R0 M σ H ρ) {i : Nat} {a : Addr} {d : D} (hm : md M i = .bor) (hs : σ[i]? = some (some (.ref a))) (hd : gv ρ i = some d) : ¬ OwnA M ρ σ a := by
  intro ho
  cases hu : isMut d with
  | true => exact e.bor i a d hm hs hd hu ho
  | false =>
    obtain ⟨j, hj⟩ := ho
    obtain ⟨_, vs, _, h1, _⟩ := e.ownAt hj
    obtain ⟨v, hv, so⟩ := e.slot i d hd
    rw [hs] at hv; cases hv
    rw [hm] at so
    have so : BorOk K (Rr R0 M ρ σ) H d (.ref a) := so
    have rp : Rep K (Rr R0 M ρ σ) H d (.ref a) → False := fun r => by
      cases r with
      | tup h _ _ =>
        rcases h with ⟨_, n⟩ | ⟨o, _, _, h, _⟩
        · exact n (.inr ⟨j, hj⟩)
        · rw [e.kf a o h] at h1; cases h1
      | lst _ _ _ => cases hu
    cases d with
    | lst ds => cases hu
    | _ => exact rp so
/-- the modes of a walk -/
def MW (M M' : List Mode) : Prop := M' = M ∨ ∃ i, M' = borM M i
theorem MW.own (h : MW M M') {j : Nat} {a : Addr} (o : OwnI M' ρ σ j a) : OwnI M ρ σ j a := by
  rcases h with rfl | ⟨i, rfl⟩
  · exact o
  · exact o.borM.1
theorem MW.ownA (h : MW M M') {a : Addr} (o : OwnA M' ρ σ a) : OwnA M ρ σ a := by obtain ⟨j, o⟩ := o; exact ⟨j, h.own o⟩
theorem MW.md (h : MW M M') (j : Nat) : md M' j = md M j ∨ (md M' j = .bor ∧ (md M j).isOwn = true ∧ ∀ ρ σ a, OwnI M ρ σ j a → ∀ k, OwnI M' ρ σ k a → k ≠ j) := by
  rcases h with rfl | ⟨i, rfl⟩
  · exact .inl rfl
  · rw [md_borM]
    by_cases z : j = i ∧ (md M i).isOwn
    · rw [if_pos z]
      refine .inr ⟨rfl, by rw [z.1]; exact z.2, fun ρ σ a o k ok => ?_⟩
      rw [z.1]; exact ok.borM.2
    · rw [if_neg z]; exact .inl rfl
theorem MW.rr (h : MW M M') : Rr (Rr R0 M ρ σ) M' ρ σ = Rr R0 M ρ σ := by
  funext a
  refine propext ⟨fun z => z.elim id fun z => .inr (h.ownA z), .inl⟩
theorem EnvOk.weakM (e : EnvOk K R0 M σ H ρ) (h : MW M M') : EnvOk K (Rr R0 M ρ σ) M' σ H ρ := by
  refine ⟨e.len, fun i d hd => ?_, fun i j a h1 h2 => e.dist i j a (h.own h1) (h.own h2), fun i a d hm hs hd hu => ?_, fun a z => e.domR z, e.kf⟩
  · obtain ⟨v, hv, so⟩ := e.slot i d hd
    refine ⟨v, hv, ?_⟩
    rw [h.rr]
    rcases h.md i with em | ⟨em, _⟩
    · rw [em]; exact so
    · rw [em]; exact so.bor
  · rcases h.md i with em | ⟨em, ho, hx⟩
    · rw [em] at hm
      exact fun z => e.bor i a d hm hs hd hu (h.ownA z)
    · intro ⟨k, z⟩
      have oi : OwnI M ρ σ i a := ⟨ho, ⟨d, hd⟩, hs⟩
      exact hx ρ σ a oi k z (e.dist k i a (h.own z) oi)
theorem EnvOk.strong (e0 : EnvOk K R0 M σ H ρ) (h : MW M M') (e : EnvOk K (Rr R0 M ρ σ) M' σ H' ρ') (l : SameLive ρ ρ') (f : Frm M' ρ σ H H') : EnvOk K R0 M σ H' ρ' := by
  have hr : Rr (Rr R0 M ρ σ) M' ρ' σ = Rr R0 M ρ' σ := (l.rr (R0 := Rr R0 M ρ σ) (M := M')).trans (h.rr.trans l.rr.symm)
  refine ⟨e.len, fun i d hd => ?_, fun i j a h1 h2 => e0.dist i j a (l.own.mp h1) (l.own.mp h2), fun i a d hm hs hd hu => ?_, fun a z => f.there a (e0.dom a z), e.kf⟩
  · obtain ⟨v, hv, so⟩ := e.slot i d hd
    refine ⟨v, hv, ?_⟩
    rw [hr] at so
    rcases h.md i with em | ⟨em, ho, hx⟩
    · rw [em] at so; exact so
    · rw [em] at so
      obtain ⟨d0, hd0⟩ := (l.2 i).mp ⟨d, hd⟩
      obtain ⟨v0, hv0, so0⟩ := e0.slot i d0 hd0
      rw [hv] at hv0; cases hv0
      have so0 := so0.own ho
      cases d0 with
      | lst ds0 =>
        obtain ⟨a, vs0, rfl, h1, t0, _⟩ := so0
        have oi : OwnI M ρ σ i a := ⟨ho, ⟨_, hd0⟩, hv⟩
        have h2 : H' a = some (.lst vs0) := f.keep a _ h1 fun ⟨k, z⟩ => hx ρ σ a oi k z (e0.dist k i a (h.own z) oi)
        have hra : Rr R0 M ρ' σ a := .inr ⟨i, l.own.mpr oi⟩
        have so : BorOk K (Rr R0 M ρ' σ) H' d (.ref a) := so
        have rp : ∀ {xs}, d = .tup xs → Rep K (Rr R0 M ρ' σ) H' d (.ref a) → False := fun ed r => by
          subst ed
          cases r with
          | tup h _ _ =>
            rcases h with ⟨_, n⟩ | ⟨o, _, _, h, _⟩
            · exact n hra
            · rw [e.kf a o h] at h2; cases h2
        have own : OwnOk K (Rr R0 M ρ' σ) H' d (.ref a) := by
          cases d with
          | lst ds =>
            obtain ⟨b, vs, eb, h3, t, z⟩ := so
            cases eb
            have : vs = vs0 := by
              rcases h3 with (h3 | ⟨o, h3⟩) | ⟨o, _, _, h3, _⟩
              · rw [h2] at h3; cases h3; rfl
              · rw [h2] at h3; cases h3
              · rw [e.kf a o h3] at h2; cases h2
            subst this
            exact ⟨a, vs, rfl, h2, t, z⟩
          | tup xs => exact (rp rfl so).elim
          | _ => exact nomatch (show Rep K (Rr R0 M ρ' σ) H' _ (.ref a) from so)
        cases em2 : md M i with
        | shr => rw [em2] at ho; cases ho
        | bor => rw [em2] at ho; cases ho
        | own => exact own
        | io => exact own
      | _ => exact so0.elim
  · rw [l.ownA]
    obtain ⟨d0, hd0⟩ := (l.2 i).mp ⟨d, hd⟩
    exact e0.bor' hm hs hd0
/-- one more address shut out, just laid -/
theorem EnvOk.laid (e : EnvOk K R0 M σ H ρ) {p : Addr} {o : HO} (hp : H p = none) (kf : KF K (upd H p o)) : EnvOk K (fun b => R0 b ∨ b = p) M σ (upd H p o) ρ := by
  have hne : ∀ a u, H a = some u → a ≠ p := fun a u z e => by rw [e, hp] at z; cases z
  have k : ∀ a u, H a = some u → ¬ Rr R0 M ρ σ a → upd H p o a = some u ∧ ¬ Rr (fun b => R0 b ∨ b = p) M ρ σ a := fun a u z n =>
    ⟨by rw [upd_ne (hne a u z)]; exact z, fun w => by
      rcases w with (w | w) | w
      · exact n (.inl w)
      · exact hne a u z w
      · exact n (.inr w)⟩
  refine ⟨e.len, fun i d hd => ?_, e.dist, e.bor, fun a z => ?_, kf⟩
  · obtain ⟨v, hv, so⟩ := e.slot i d hd
    exact ⟨v, hv, so.mono k fun _ a u _ z => by rw [upd_ne (hne a u z)]; exact z⟩
  · by_cases w : a = p
    · rw [w, upd_same]; exact fun z => by cases z
    · rw [upd_ne w]; exact e.dom a (z.resolve_right w)
theorem EnvOk.lessR {P : Addr → Prop} (e : EnvOk K (fun b => R0 b ∨ P b) M σ H ρ) : EnvOk K R0 M σ H ρ := by
  refine ⟨e.len, fun i d hd => ?_, e.dist, e.bor, fun a z => e.dom a (.inl z), e.kf⟩
  obtain ⟨v, hv, so⟩ := e.slot i d hd
  exact ⟨v, hv, so.mono (fun a u z n => ⟨z, fun w => n (w.elim (fun w => .inl (.inl w)) .inr)⟩) fun _ _ _ _ z => z⟩
/-- the object at a shut-out address that no name holds is changed -/
theorem EnvOk.chg (e : EnvOk K R0 M σ H ρ) {p : Addr} {o : HO} (hR : R0 p) (hs : ∀ i d, gv ρ i = some d → σ[i]? ≠ some (some (.ref p))) : EnvOk K R0 M σ (upd H p o) ρ := by
  have k : ∀ a u, H a = some u → ¬ Rr R0 M ρ σ a → upd H p o a = some u ∧ ¬ Rr R0 M ρ σ a := fun a u z n =>
    ⟨by rw [upd_ne fun e => n (.inl (by rw [e]; exact hR))]; exact z, n⟩
  refine ⟨e.len, fun i d hd => ?_, e.dist, e.bor, fun a z => ?_, fun a u z => ?_⟩
  · obtain ⟨v, hv, so⟩ := e.slot i d hd
    refine ⟨v, hv, so.mono k fun _ a u ea z => ?_⟩
    rw [upd_ne fun e => hs i d hd (by rw [hv, ea, e])]; exact z
  · by_cases w : a = p
    · rw [w, upd_same]; exact fun z => by cases z
    · rw [upd_ne w]; exact e.dom a z
  · have : a ≠ p := fun w => e.dom p hR (by rw [← w]; exact e.kf a u z)
    rw [upd_ne this]; exact e.kf a u z
end

/-! ### slots forgotten, and as they were -/
section
variable {K : PySem.W.Frag} {R0 : Addr → Prop} {M M' : List Mode} {σ σ' : L2.St} {H H' : Hp} {ρ ρ' : Env} {d : D} {v : V} {vs : List Nat}
theorem wipe_in {i : Nat} : ∀ {vs : List Nat}, i ∈ vs → ∀ x, (wipe σ vs)[i]? ≠ some (some x) := fun h x e => (wipe_some e).2 h
theorem wipe_get {i : Nat} (hi : i < σ.length) : (wipe σ vs)[i]? = if i ∈ vs then some none else σ[i]? := by
  by_cases h : i ∈ vs
  · rw [if_pos h]
    have hl : i < (wipe σ vs).length := by rw [wipe_length]; exact hi
    rw [List.getElem?_eq_getElem hl]
    cases e : (wipe σ vs)[i] with
    | none => rfl
    | some x => exact absurd (by rw [List.getElem?_eq_getElem hl, e]) (wipe_in h x)
  · rw [if_neg h]; exact wipe_out h
theorem wipe_ext (hl : σ'.length = σ.length) (h : ∀ j, j ∉ vs → σ'[j]? = σ[j]?) : wipe σ' vs = wipe σ vs := by
  refine List.ext_getElem? fun i => ?_
  by_cases hi : i < σ.length
  · rw [wipe_get hi, wipe_get (by rw [hl]; exact hi)]
    by_cases hm : i ∈ vs
    · rw [if_pos hm, if_pos hm]
    · rw [if_neg hm, if_neg hm]; exact h i hm
  · rw [List.getElem?_eq_none (by rw [wipe_length, hl]; omega), List.getElem?_eq_none (by rw [wipe_length]; omega)]
theorem wipeE_len : ∀ {vs : List Nat}, (wipeE vs ρ).length = ρ.length
  | [] => rfl
  | v :: vs => by unfold wipeE; rw [List.length_set, wipeE_len]
theorem gv_none_set {i j : Nat} {x : Option D} : gv (ρ.set i x) j = if j = i ∧ i < ρ.length then x else gv ρ j := by
  by_cases h : i < ρ.length
  · rw [gv_set h]
    by_cases e : j = i
    · rw [if_pos e, if_pos ⟨e, h⟩]
    · rw [if_neg e, if_neg fun z => e z.1]
  · rw [if_neg fun z => h z.2, List.set_eq_of_length_le (by omega)]
theorem gv_wipeE {j : Nat} : ∀ {vs : List Nat}, gv (wipeE vs ρ) j = if j ∈ vs then none else gv ρ j
  | [] => by unfold wipeE; simp
  | v :: vs => by
    unfold wipeE
    rw [gv_none_set, gv_wipeE, wipeE_len]
    by_cases e : j = v
    · subst e
      by_cases h : j < ρ.length
      · rw [if_pos ⟨rfl, h⟩, if_pos List.mem_cons_self]
      · rw [if_neg fun z => h z.2, if_pos List.mem_cons_self]
        have : gv ρ j = none := by unfold gv; rw [List.getElem?_eq_none (by omega)]
        rw [this]; split <;> rfl
    · rw [if_neg fun z => e z.1]
      by_cases h : j ∈ vs
      · rw [if_pos h, if_pos (List.mem_cons_of_mem _ h)]
      · rw [if_neg h, if_neg (by simp [e, h])]
theorem restore_len {ρ0 : Env} : ∀ {vs : List Nat}, (restore vs ρ0 ρ).length = ρ.length
  | [] => rfl
  | v :: vs => by unfold restore; rw [List.length_set, restore_len]
theorem gv_restore {ρ0 : Env} {j : Nat} (hl : ρ.length = ρ0.length) : ∀ {vs : List Nat}, gv (restore vs ρ0 ρ) j = if j ∈ vs then gv ρ0 j else gv ρ j
  | [] => by unfold restore; simp
  | v :: vs => by
    unfold restore
    rw [gv_none_set, gv_restore hl, restore_len]
    by_cases e : j = v
    · subst e
      by_cases h : j < ρ.length
      · rw [if_pos ⟨rfl, h⟩, if_pos List.mem_cons_self]
      · rw [if_neg fun z => h z.2, if_pos List.mem_cons_self]
        have : gv ρ j = none := by unfold gv; rw [List.getElem?_eq_none (by omega)]
        have h2 : gv ρ0 j = none := by unfold gv; rw [List.getElem?_eq_none (by omega)]
        rw [this, h2]; split <;> rfl
    · rw [if_neg fun z => e z.1]
      by_cases h : j ∈ vs
      · rw [if_pos h, if_pos (List.mem_cons_of_mem _ h)]
      · rw [if_neg h, if_neg (by simp [e, h])]
theorem own_wipe (hs : ∀ i ∈ vs, md M i = .shr) {i : Nat} {a : Addr} : OwnI M (wipeE vs ρ) (wipe σ vs) i a ↔ OwnI M ρ σ i a := by
  unfold OwnI
  refine and_congr_right fun hm => ?_
  have : i ∉ vs := fun z => by rw [hs i z] at hm; cases hm
  rw [gv_wipeE, if_neg this, wipe_out this]
theorem EnvOk.wipe (e : EnvOk K R0 M σ H ρ) (hs : ∀ i ∈ vs, md M i = .shr) : EnvOk K R0 M (wipe σ vs) H (wipeE vs ρ) := by
  have hr : Rr R0 M (wipeE vs ρ) (L2.wipe σ vs) = Rr R0 M ρ σ := by funext a; unfold Rr OwnA; simp only [own_wipe hs]
  refine ⟨by rw [wipeE_len, wipe_length, e.len], fun i d hd => ?_, fun i j a h1 h2 => e.dist i j a ((own_wipe hs).mp h1) ((own_wipe hs).mp h2), fun i a d hm hv hd hu => ?_, e.dom, e.kf⟩
  · rw [gv_wipeE] at hd
    split at hd
    · cases hd
    · rename_i hi
      obtain ⟨v, hv, so⟩ := e.slot i d hd
      rw [hr]
      exact ⟨v, by rw [wipe_out hi]; exact hv, so⟩
  · rw [gv_wipeE] at hd
    split at hd
    · cases hd
    · rename_i hi
      rw [wipe_out hi] at hv
      unfold OwnA; simp only [own_wipe hs]
      exact e.bor i a d hm hv hd hu
end
end Ev
end -- EvX6

section -- EvX7
set_option Elab.async false
set_option linter.all false
set_option maxRecDepth 100000
set_option maxHeartbeats 1000000
/-! EvX7: targets bound; the rule of a comprehension. -/
namespace Ev
open PySem PySem.Spec PyProof.Rows L2

mutual
def varsT : T → List Nat
  | .name i => [i]
  | .tup ts => varsTs ts
def varsTs : List T → List Nat
  | [] => []
  | t :: ts => varsT t ++ varsTs ts
end
/-- only these names were bound -/
structure Bnd (vs : List Nat) (σ : L2.St) (ρ : Env) (σ' : L2.St) (ρ' : Env) : Prop where
  len : σ'.length = σ.length
  lenE : ρ'.length = ρ.length
  out : ∀ j, j ∉ vs → σ'[j]? = σ[j]? ∧ gv ρ' j = gv ρ j
section
variable {K : PySem.W.Frag} {R0 : Addr → Prop} {M M' : List Mode} {σ σ' σ2 : L2.St} {H H' : Hp} {ρ ρ' ρ2 : Env} {d : D} {v : V} {vs ws : List Nat}
theorem Bnd.refl : Bnd vs σ ρ σ ρ := ⟨rfl, rfl, fun _ _ => ⟨rfl, rfl⟩⟩
theorem Bnd.trans (a : Bnd vs σ ρ σ' ρ') (b : Bnd ws σ' ρ' σ2 ρ2) : Bnd (vs ++ ws) σ ρ σ2 ρ2 :=
  ⟨b.len.trans a.len, b.lenE.trans a.lenE, fun j h => by
    rw [List.mem_append, not_or] at h
    exact ⟨(b.out j h.2).1.trans (a.out j h.1).1, (b.out j h.2).2.trans (a.out j h.1).2⟩⟩
theorem Bnd.own (b : Bnd vs σ ρ σ' ρ') (hs : ∀ i ∈ vs, md M i = .shr) {i : Nat} {a : Addr} : OwnI M ρ' σ' i a ↔ OwnI M ρ σ i a := by
  unfold OwnI
  refine and_congr_right fun hm => ?_
  have : i ∉ vs := fun z => by rw [hs i z] at hm; cases hm
  rw [(b.out i this).1, (b.out i this).2]
theorem Bnd.ownA (b : Bnd vs σ ρ σ' ρ') (hs : ∀ i ∈ vs, md M i = .shr) {a : Addr} : OwnA M ρ' σ' a ↔ OwnA M ρ σ a := by unfold OwnA; simp only [b.own hs]
theorem Bnd.rr (b : Bnd vs σ ρ σ' ρ') (hs : ∀ i ∈ vs, md M i = .shr) : Rr R0 M ρ' σ' = Rr R0 M ρ σ := by funext a; unfold Rr; rw [b.ownA hs]
theorem EnvOk.put (e : EnvOk K R0 M σ H ρ) {i : Nat} (hm : md M i = .shr) (r : Rep K (Rr R0 M ρ σ) H d v) : EnvOk K R0 M (σ.set i (some v)) H (ρ.set i (some d)) ∧ Bnd [i] σ ρ (σ.set i (some v)) (ρ.set i (some d)) := by
  have b : Bnd [i] σ ρ (σ.set i (some v)) (ρ.set i (some d)) := ⟨by simp, by simp, fun j hj => by
    have : j ≠ i := by simpa using hj
    rw [List.getElem?_set_ne (Ne.symm this), gv_none_set, if_neg fun z => this z.1]
    exact ⟨rfl, rfl⟩⟩
  have hs : ∀ j ∈ [i], md M j = .shr := fun j hj => by
    have : j = i := by simpa using hj
    rw [this]; exact hm
  refine ⟨⟨by simp [e.len], fun j d' hd => ?_, fun x y a h1 h2 => e.dist x y a ((b.own hs).mp h1) ((b.own hs).mp h2), fun j a d' hm' hv hd hu => ?_, e.dom, e.kf⟩, b⟩
  · rw [b.rr hs]
    by_cases hj : j = i ∧ i < ρ.length
    · rw [gv_none_set, if_pos hj] at hd
      cases hd
      rw [hj.1]
      exact ⟨v, by rw [List.getElem?_set_self (by rw [← e.len]; exact hj.2)], by rw [hm]; exact r⟩
    · rw [gv_none_set, if_neg hj] at hd
      obtain ⟨w, hw, so⟩ := e.slot j d' hd
      refine ⟨w, ?_, so⟩
      by_cases z : j = i
      · subst z
        rw [List.set_eq_of_length_le (by rw [← e.len]; omega)]; exact hw
      · rw [List.getElem?_set_ne (Ne.symm z)]; exact hw
  · have z : j ≠ i := fun z => by rw [z, hm] at hm'; cases hm'
    rw [(b.out j (by simpa using z)).1] at hv
    rw [(b.out j (by simpa using z)).2] at hd
    rw [b.ownA hs]
    exact e.bor j a d' hm' hv hd hu
end
def gT (K : PySem.W.Frag) (R0 : Addr → Prop) (M : List Mode) (t : T) : TG := fun v σ H N => ∃ ρ d ρ', EnvOk K R0 M σ H ρ ∧ Rep K (Rr R0 M ρ σ) H d v ∧ bindT t d ρ = some ρ' ∧ ∀ σ', EnvOk K R0 M σ' H ρ' → Bnd (varsT t) σ ρ σ' ρ' → N σ' H
def gTs (K : PySem.W.Frag) (R0 : Addr → Prop) (M : List Mode) (ts : List T) : TGs := fun vs σ H N => ∃ ρ ds ρ', EnvOk K R0 M σ H ρ ∧ RepL K (Rr R0 M ρ σ) H ds vs ∧ ts.length = ds.length ∧ bindTs ts ds ρ = some ρ' ∧ ∀ σ', EnvOk K R0 M σ' H ρ' → Bnd (varsTs ts) σ ρ σ' ρ' → N σ' H
theorem PG.mono {X : Cx} {tg : Expr} {t t' : TG} (h : PG X tg t) (hm : ∀ v σ H N, t' v σ H N → t v σ H N) : PG X tg t' := ⟨fun pins s σ H v u Q I r q => h.run pins s σ H v u Q I r (hm v σ H Q q)⟩
theorem PGs.mono {X : Cx} {tg : List Expr} {t t' : TGs} (h : PGs X tg t) (hm : ∀ v σ H N, t' v σ H N → t v σ H N) : PGs X tg t' := ⟨fun pins s σ H v u Q I r q => h.run pins s σ H v u Q I r (hm v σ H Q q)⟩
section
variable {X : Cx} {R0 : Addr → Prop} {M M' : List Mode} {xr : XR} {W : WX} {q qi qt qe : Bool} {fl fe : Fl} {σ : L2.St} {H H' : Hp} {ρ : Env}
theorem g_name {i : Nat} {x : Str} {pos : Pos} (hN : X.N.Nodup) (hi : X.N[i]? = some x) (hx : Loc X.env.scope x) (hf : X.fn x = true ∨ X.env.scope.names.lookup x = some .local) (hm : md M i = .shr) : PG X (.Name x pos) (gT X.K R0 M (.name i)) :=
  PG.mono (pg_name hN hi hx hf) fun v σ H N ⟨ρ, d, ρ', env, r, hb, h⟩ => by
    unfold bindT at hb
    cases hb
    have := env.put hm r
    exact h _ this.1 this.2
theorem g_nil : PGs X [] (gTs X.K R0 M []) :=
  PGs.mono pgs_nil fun v σ H N ⟨ρ, ds, ρ', env, r, hl, hb, h⟩ => by
    cases r with
    | nil => exact ⟨rfl, by unfold bindTs at hb; cases hb; exact h σ env .refl⟩
    | cons _ _ => cases hl
theorem g_cons {e : Expr} {es : List Expr} {t : T} {ts : List T} (h1 : PG X e (gT X.K R0 M t)) (h2 : PGs X es (gTs X.K R0 M ts)) (hm : ∀ i ∈ varsT t, md M i = .shr)
    (hs : (assignEach (e :: es) X.env).map (·.2) = assign e X.env :: (assignEach es X.env).map (·.2)) : PGs X (e :: es) (gTs X.K R0 M (t :: ts)) :=
  PGs.mono (pgs_cons h1 h2 hs) fun v σ H N ⟨ρ, ds, ρ', env, r, hl, hb, h⟩ => by
    cases r with
    | nil => cases hl
    | cons r rr =>
      unfold bindTs at hb
      obtain ⟨ρ1, hb1, hb2⟩ := Option.bind_eq_some_iff.mp hb
      refine ⟨_, _, rfl, ρ, _, ρ1, env, r, hb1, fun σ1 env1 b1 => ⟨ρ1, _, ρ', env1, ?_, by simpa using hl, hb2, fun σ2 env2 b2 => h σ2 env2 ?_⟩⟩
      · rw [b1.rr hm]; exact rr
      · unfold varsTs; exact b1.trans b2
theorem g_tup {es : List Expr} {k : Nat} {ts : List T} {pos : Pos} (hc : X.calm = true) (h : PGs X es (gTs X.K R0 M ts)) (hn : (assignEach es X.env).length = ts.length) (hst : (assignEach es X.env).findIdx? (·.1) = none) : PG X (.Tuple es k pos) (gT X.K R0 M (.tup ts)) :=
  PG.mono (pg_tup hc h hn hst) fun v σ H N ⟨ρ, d, ρ', env, r, hb, h⟩ => by
    cases r with
    | tup ht rl hz =>
      unfold bindT at hb
      split at hb
      · rename_i hl
        exact ⟨_, _, rfl, ht.sq, by rw [← rl.length, hl], ρ, _, ρ', env, rl, hl, hb, fun σ' e b => h σ' e (by unfold varsT; exact b)⟩
      · cases hb
    | _ => cases hb

/-! ### a comprehension -/
abbrev WF : WX := fun _ _ _ _ => False
/-- one turn -/
def compStep (t : T) (gt : Env → Out Bool) (ge : Env → Out D) (vs : List Nat) : D → Env → Out (Option D) := fun x ρ => match bindT t x ρ with
  | none => .stuck
  | some ρ => match gt ρ with
    | .ok true ρ => match ge ρ with
      | .ok d ρ => .ok (some d) (wipeE vs ρ)
      | _ => .stuck
    | .ok false ρ => .ok none (wipeE vs ρ)
    | _ => .stuck
def compO (t : T) (gt : Env → Out Bool) (ge : Env → Out D) (vs : List Nat) (xs : List D) (ρ0 : Env) : Out D := match compLoop (compStep t gt ge vs) xs [] (wipeE vs ρ0) with
  | .ok ds ρ => .ok (.lst ds) (restore vs ρ0 ρ)
  | _ => .stuck
/-- what stands at a turn -/
structure CInv (K : PySem.W.Frag) (R0 : Addr → Prop) (M M' : List Mode) (q : Bool) (σ : L2.St) (H2 : Hp) (ρ0 : Env) (vs : List Nat) (Dn : Addr) (tot : Out (List D)) (step : D → Env → Out (Option D)) (rest : List D) (i : Nat) (H : Hp) (ρ : Env) (acc : List D) (accV : List V) : Prop where
  eq : tot = compLoop step rest acc ρ
  env : EnvOk K (fun b => Rr R0 M ρ0 σ b ∨ b = Dn) M' (L2.wipe σ vs) H ρ
  live : SameLive (wipeE vs ρ0) ρ
  quiet : q = true → ρ = wipeE vs ρ0 ∧ Same H2 H
  frm : Frm M' ρ0 σ H2 H
  new : H Dn = some (.lst accV)
  rep : RepL K (fun b => Rr R0 M ρ0 σ b ∨ b = Dn) H acc accV
  len : acc.length ≤ i
theorem restore_wipe {vs : List Nat} {ρ0 : Env} : ∀ i, gv (restore vs ρ0 (wipeE vs ρ0)) i = gv ρ0 i := fun i => by
  rw [gv_restore (by rw [wipeE_len]), gv_wipeE]
  by_cases h : i ∈ vs
  · rw [if_pos h]
  · rw [if_neg h, if_neg h]
theorem env_ext {ρ ρ' : Env} (hl : ρ.length = ρ'.length) (h : ∀ i, gv ρ i = gv ρ' i) : ρ = ρ' := by
  refine List.ext_getElem? fun i => ?_
  have := h i
  unfold gv at this
  by_cases hi : i < ρ.length
  · have hi' : i < ρ'.length := by rw [← hl]; exact hi
    rw [List.getElem?_eq_getElem hi, List.getElem?_eq_getElem hi'] at this ⊢
    dsimp only at this
    rw [this]
  · rw [List.getElem?_eq_none (by omega), List.getElem?_eq_none (by omega)]
/-- behind the last turn -/
theorem comp_end {K : PySem.W.Frag} {vs : List Nat} {Dn : Addr} {tot : Out (List D)} {step : D → Env → Out (Option D)} {i : Nat} {H2 : Hp} {ρ0 ρe : Env} {acc : List D} {accV : List V} (hMM : MW M M') (hv : ∀ i ∈ vs, md M i = .shr)
    (m : Mv K R0 M σ qi H ρ H2 ρ0) (hD : H2 Dn = none) (c : CInv K R0 M M' q σ H2 ρ0 vs Dn tot step [] i H' ρe acc accV) (hz : i ≤ LIM) (hfl : fl ≠ .bor) :
    tot = .ok acc ρe ∧ Mv K R0 M σ (qi && q) H ρ H' (restore vs ρ0 ρe) ∧ VOk K (Rr R0 M ρ σ) fl H H' (.lst acc) (.ref Dn) := by
  have hv' : ∀ i ∈ vs, md M' i = .shr := fun i hi => by
    rcases hMM.md i with e | ⟨_, e, _⟩
    · rw [e]; exact hv i hi
    · rw [hv i hi] at e; cases e
  have hle : ρe.length = ρ0.length := by rw [c.live.1, wipeE_len]
  have live' : SameLive ρ0 (restore vs ρ0 ρe) := by
    refine ⟨by rw [restore_len, hle], fun i => ?_⟩
    rw [gv_restore hle]
    by_cases h : i ∈ vs
    · rw [if_pos h]
    · rw [if_neg h, c.live.2 i, gv_wipeE, if_neg h]
  have hI : ∀ i a, OwnI M' ρe (L2.wipe σ vs) i a ↔ OwnI M' (restore vs ρ0 ρe) σ i a := fun i a =>
    (c.live.own.trans (own_wipe hv')).trans live'.own.symm
  have hA : ∀ a, OwnA M' ρe (L2.wipe σ vs) a ↔ OwnA M' (restore vs ρ0 ρe) σ a := fun a => exists_congr fun i => hI i a
  have hrr : Rr (fun b => Rr R0 M ρ0 σ b ∨ b = Dn) M' ρe (L2.wipe σ vs) = Rr (fun b => Rr R0 M ρ0 σ b ∨ b = Dn) M' (restore vs ρ0 ρe) σ := by
    funext a; unfold Rr; rw [hA]
  have e2 : EnvOk K (fun b => Rr R0 M ρ0 σ b ∨ b = Dn) M' σ H' (restore vs ρ0 ρe) := by
    refine ⟨by rw [restore_len, hle]; exact m.env.len, fun i d hd => ?_, fun i j a h1 h2 => c.env.dist i j a ((hI i a).mpr h1) ((hI j a).mpr h2), fun i a d hm hs hd hu => ?_, c.env.dom, c.env.kf⟩
    · rw [gv_restore hle] at hd
      by_cases h : i ∈ vs
      · rw [if_pos h] at hd
        obtain ⟨v, hv1, so⟩ := m.env.slot i d hd
        refine ⟨v, hv1, ?_⟩
        rw [hv i h] at so
        rw [hv' i h]
        refine Rep.mono (fun a o e n => ⟨c.frm.keep a o e fun z => n (.inr (hMM.ownA z)), fun z => ?_⟩) so
        rcases z with (z | z) | z
        · exact n z
        · rw [z, hD] at e; cases e
        · exact n (.inr (hMM.ownA (live'.ownA.mp z)))
      · rw [if_neg h] at hd
        obtain ⟨v, hv1, so⟩ := c.env.slot i d hd
        rw [wipe_out h] at hv1
        rw [hrr] at so
        exact ⟨v, hv1, so⟩
    · have h : i ∉ vs := fun z => by rw [hv' i z] at hm; cases hm
      rw [gv_restore hle, if_neg h] at hd
      intro z
      exact c.env.bor i a d hm (by rw [wipe_out h]; exact hs) hd hu ((hA a).mpr z)
  have e3 := m.env.strong hMM e2.lessR live' c.frm
  have mv : Mv K R0 M σ (qi && q) H ρ H' (restore vs ρ0 ρe) := by
    refine m.trans (q' := q) ⟨e3, ⟨fun a o e n => c.frm.keep a o e fun z => n (hMM.ownA z), c.frm.there⟩, live', fun z => ?_⟩
    obtain ⟨q1, q2⟩ := c.quiet z
    refine ⟨q2, ?_⟩
    rw [q1]
    exact env_ext (by rw [restore_len, wipeE_len]) restore_wipe
  refine ⟨by rw [c.eq]; rfl, mv, ?_⟩
  have rep := c.rep
  rw [m.rr] at rep
  cases fl with
  | fresh => exact ⟨Dn, accV, rfl, m.was hD, c.new, rep, Nat.le_trans c.len hz⟩
  | shr =>
    refine .lst (.inl ⟨.inl c.new, fun z => ?_⟩) (rep.mono fun a o e n => ⟨e, fun z => n (.inl z)⟩) (Nat.le_trans c.len hz)
    rw [← m.rr] at z
    exact m.env.domR z hD
  | bor => exact absurd rfl hfl
/-- one turn -/
theorem comp_turn {K : PySem.W.Frag} {vs : List Nat} {Dn : Addr} {tot : Out (List D)} {t : T} {gt : Env → Out Bool} {ge : Env → Out D} {rest : List D} {x : D} {i : Nat} {xv : V} {H2 : Hp} {ρ0 ρe : Env} {acc : List D} {accV : List V} {Nx : Hp → Prop}
    (hMM : MW M M') (hv : ∀ i ∈ vs, md M i = .shr) (htv : ∀ i ∈ varsT t, i ∈ vs) (hfe : fe ≠ .bor) (e0 : EnvOk K R0 M σ H2 ρ0) (hD : H2 Dn = none) (kfD : K.lookup Dn = none) (hst : ∃ ds ρ', tot = .ok ds ρ') (hi : i < sizeLine)
    (c : CInv K R0 M M' (qt && qe) σ H2 ρ0 vs Dn tot (compStep t gt ge vs) (x :: rest) i H ρe acc accV) (rx : Rep K (fun b => Rr R0 M ρ0 σ b ∨ b = Dn) H x xv)
    (hN : ∀ H' ρ' acc' accV', CInv K R0 M M' (qt && qe) σ H2 ρ0 vs Dn tot (compStep t gt ge vs) rest (i + 1) H' ρ' acc' accV' → Nx H') :
    ∃ R2, gT K R2 M' t xv (L2.wipe σ vs) H fun σ2 H2 => L2.wipe σ2 vs = L2.wipe σ vs ∧ ∃ R2, tT K R2 M' xr WF qt gt σ2 H2 fun b H3 =>
      if b = true then ∃ R2, tO K R2 M' xr WF qe fe ge σ2 H3 fun y H4 => ∃ acc, H4 Dn = some (.lst acc) ∧ acc.length < sizeLine ∧ Nx (upd H4 Dn (.lst (acc ++ [y]))) else Nx H3 := by
  have hv' : ∀ i ∈ vs, md M' i = .shr := fun i hi => by
    rcases hMM.md i with e | ⟨_, e, _⟩
    · rw [e]; exact hv i hi
    · rw [hv i hi] at e; cases e
  have htm : ∀ i ∈ varsT t, md M' i = .shr := fun i h => hv' i (htv i h)
  have hA : ∀ a, OwnA M' ρe (L2.wipe σ vs) a ↔ OwnA M' ρ0 σ a := fun a => exists_congr fun j => c.live.own.trans (own_wipe hv')
  have hrr : Rr (fun b => Rr R0 M ρ0 σ b ∨ b = Dn) M' ρe (L2.wipe σ vs) = fun b => Rr R0 M ρ0 σ b ∨ b = Dn := by
    funext a
    refine propext ⟨fun z => z.elim id fun z => .inl (.inr (hMM.ownA ((hA a).mp z))), .inl⟩
  refine ⟨fun b => Rr R0 M ρ0 σ b ∨ b = Dn, ?_⟩
  have eq := c.eq
  rw [compLoop] at eq
  unfold compStep at eq
  cases eb : bindT t x ρe with
  | none =>
    rw [eb] at eq
    obtain ⟨ds, r, hok⟩ := hst
    rw [hok] at eq; cases eq
  | some ρ1 =>
    rw [eb] at eq
    dsimp only at eq
    refine ⟨ρe, x, ρ1, c.env, by rw [hrr]; exact rx, eb, fun σ2 env2 b2 => ?_⟩
    refine ⟨wipe_ext (by rw [b2.len, wipe_length]) fun j hj => ?_, _, ρ1, env2, ?_⟩
    · rw [(b2.out j fun z => hj (htv j z)).1, wipe_out hj]
    have hl : SameLive (wipeE vs ρ0) (wipeE vs ρ1) := by
      refine ⟨by rw [wipeE_len, b2.lenE]; exact c.live.1, fun j => ?_⟩
      rw [gv_wipeE]
      by_cases h : j ∈ vs
      · rw [if_pos h, gv_wipeE, if_pos h]
      · rw [if_neg h, (b2.out j fun z => h (htv j z)).2]; exact c.live.2 j
    have hA2 : ∀ a, OwnA M' ρ1 σ2 a ↔ OwnA M' ρ0 σ a := fun a => (b2.ownA htm).trans (hA a)
    have hw : L2.wipe σ2 vs = L2.wipe σ vs := wipe_ext (by rw [b2.len, wipe_length]) fun j hj => by
      rw [(b2.out j fun z => hj (htv j z)).1, wipe_out hj]
    have hr1 : Rr (fun b => Rr R0 M ρ0 σ b ∨ b = Dn) M' ρ1 σ2 = fun b => Rr R0 M ρ0 σ b ∨ b = Dn := by
      rw [b2.rr htm]; exact hrr
    have wl : ∀ {ρa ρb : Env}, SameLive ρa ρb → SameLive (wipeE vs ρa) (wipeE vs ρb) := fun {ρa ρb} l => by
      refine ⟨by rw [wipeE_len, wipeE_len, l.1], fun j => ?_⟩
      rw [gv_wipeE, gv_wipeE]
      by_cases h : j ∈ vs
      · rw [if_pos h, if_pos h]
      · rw [if_neg h, if_neg h]; exact l.2 j
    have hno : ¬ OwnA M' ρ1 σ2 Dn := fun z => e0.domR (.inr (hMM.ownA ((hA2 Dn).mp z))) hD
    have hne : ∀ a o, H2 a = some o → a ≠ Dn := fun a o e z => by rw [z, hD] at e; cases e
    have hwq : ρe = wipeE vs ρ0 → wipeE vs ρ1 = wipeE vs ρ0 := fun z => by
      refine env_ext (by rw [wipeE_len, b2.lenE, z]) fun j => ?_
      rw [gv_wipeE]
      by_cases h : j ∈ vs
      · rw [if_pos h, gv_wipeE, if_pos h]
      · rw [if_neg h, (b2.out j fun z => h (htv j z)).2, z]
    cases et : gt ρ1 with
    | stuck =>
      rw [et] at eq
      obtain ⟨ds, r, hok⟩ := hst
      rw [hok] at eq; cases eq
    | exc _ _ _ =>
      rw [et] at eq
      obtain ⟨ds, r, hok⟩ := hst
      rw [hok] at eq; cases eq
    | ok b ρ3 =>
      rw [et] at eq
      intro H3 m3
      cases b with
      | false =>
        dsimp only at eq
        rw [if_neg Bool.false_ne_true]
        refine hN H3 (wipeE vs ρ3) acc accV ⟨eq, ?_, ?_, fun z => ?_, ?_, ?_, ?_, Nat.le_succ_of_le c.len⟩
        · have := m3.env.wipe hv'
          rw [hw] at this; exact this
        · exact hl.trans (wl m3.live)
        · rw [Bool.and_eq_true] at z
          obtain ⟨q1, q2⟩ := c.quiet (by rw [Bool.and_eq_true]; exact z)
          obtain ⟨q3, q4⟩ := m3.quiet z.1
          exact ⟨by rw [q4]; exact hwq q1, q2.trans q3⟩
        · exact ⟨fun a o e n => m3.frm.keep a o (c.frm.keep a o e n) fun z => n ((hA2 a).mp z), fun a h => m3.frm.there a (c.frm.there a h)⟩
        · exact m3.frm.keep _ _ c.new hno
        · have := c.rep
          rw [← hr1] at this ⊢
          exact this.frm m3.frm
      | true =>
        dsimp only at eq
        rw [if_pos rfl]
        refine ⟨_, ρ3, m3.env, ?_⟩
        cases ee : ge ρ3 with
        | stuck =>
          rw [ee] at eq
          obtain ⟨ds, r, hok⟩ := hst
          rw [hok] at eq; cases eq
        | exc _ _ _ =>
          rw [ee] at eq
          obtain ⟨ds, r, hok⟩ := hst
          rw [hok] at eq; cases eq
        | ok d ρ4 =>
          rw [ee] at eq
          dsimp only at eq
          intro y H4 m4 vo
          have m34 := m3.trans m4
          have hnew : H4 Dn = some (.lst accV) := m34.frm.keep _ _ c.new hno
          have ra : RepL K (fun b => Rr R0 M ρ0 σ b ∨ b = Dn) H4 acc accV := by
            have := c.rep
            rw [← hr1] at this ⊢
            exact this.frm m34.frm
          have ry : Rep K (fun b => Rr R0 M ρ0 σ b ∨ b = Dn) H4 d y := by
            have := vo.rep hfe fun a z => m3.env.domR z
            rw [m3.rr, hr1] at this
            exact this
          have up : ∀ a o, H4 a = some o → a ≠ Dn → upd H4 Dn (.lst (accV ++ [y])) a = some o := fun a o e z => by rw [upd_ne z]; exact e
          have upR : ∀ a o, H4 a = some o → ¬ (Rr R0 M ρ0 σ a ∨ a = Dn) → upd H4 Dn (.lst (accV ++ [y])) a = some o ∧ ¬ (Rr R0 M ρ0 σ a ∨ a = Dn) := fun a o e n => ⟨up a o e fun z => n (.inr z), n⟩
          refine ⟨accV, hnew, by rw [← ra.length]; exact Nat.lt_of_le_of_lt c.len hi, ?_⟩
          refine hN _ (wipeE vs ρ4) (acc ++ [d]) (accV ++ [y]) ⟨eq, ?_, ?_, fun z => ?_, ?_, upd_same, ?_, ?_⟩
          · have := m4.env.wipe hv'
            rw [hw] at this
            refine this.chg (.inr rfl) fun j dj hj hs => ?_
            rw [gv_wipeE] at hj
            by_cases h : j ∈ vs
            · rw [if_pos h] at hj; cases hj
            · rw [if_neg h] at hj
              rw [wipe_out h] at hs
              obtain ⟨d1, hd1⟩ := (m34.live.2 j).mp ⟨dj, hj⟩
              have hd2 : ∃ d, gv (wipeE vs ρ1) j = some d := ⟨d1, by rw [gv_wipeE, if_neg h]; exact hd1⟩
              obtain ⟨d3, hd3⟩ := (hl.2 j).mp hd2
              rw [gv_wipeE, if_neg h] at hd3
              obtain ⟨v0, hv0, so⟩ := e0.slot j d3 hd3
              rw [hs] at hv0; cases hv0
              rcases so.ref with z | ⟨o, z⟩
              · exact z hD
              · rw [kfD] at z; cases z
          · exact hl.trans (wl m34.live)
          · obtain ⟨q1, q2⟩ := c.quiet z
            obtain ⟨q3, q4⟩ := m34.quiet z
            refine ⟨by rw [q4]; exact hwq q1, fun a o e => up a o (q3 a o (q2 a o e)) (hne a o e)⟩
          · refine ⟨fun a o e n => up a o (m34.frm.keep a o (c.frm.keep a o e n) fun z => n ((hA2 a).mp z)) (hne a o e), fun a h => ?_⟩
            by_cases z : a = Dn
            · rw [z]; rw [upd_same]; exact fun z => by cases z
            · rw [upd_ne z]; exact m34.frm.there a (c.frm.there a h)
          · exact (ra.mono upR).append (.cons (ry.mono upR) .nil)
          · rw [List.length_append]; exact Nat.succ_le_succ c.len
section
variable {tg iter elt : Expr} {ifs : List Expr} {scope : Scope} {own : List (Str × Nat)} {pos : Pos} {t : T} {gi : Env → Out (List D)} {gt : Env → Out Bool} {ge : Env → Out D}
/-- what the kit's rule of a comprehension is given -/
abbrev lcG (K : PySem.W.Frag) (M' : List Mode) (t : T) : TG := fun x σ H Q => KF K H → ∃ R2, gT K R2 M' t x σ H Q
abbrev lcT (K : PySem.W.Frag) (M' : List Mode) (xr : XR) (qt : Bool) (gt : Env → Out Bool) : TT := fun σ H Q => ∃ R2, tT K R2 M' xr WF qt gt σ H Q
abbrev lcE (K : PySem.W.Frag) (M' : List Mode) (xr : XR) (qe : Bool) (fe : Fl) (ge : Env → Out D) : TE := fun σ H Q => ∃ R2, tO K R2 M' xr WF qe fe ge σ H Q
theorem lc_parts
    (hg : ∀ (R2 : Addr → Prop) (s : Shared) (H : Hp) (C : Addr) (cl : List (Str × Addr)) (fp : List Addr), PG (X.blk s H scope (compEnvC scope cl C X.env) fp) tg (gT X.K R2 M' t))
    (ht : ∀ (R2 : Addr → Prop) (s : Shared) (H : Hp) (C : Addr) (cl : List (Str × Addr)) (fp : List Addr), PTs (X.blk s H scope (compEnvC scope cl C X.env) fp) ifs (tT X.K R2 M' xr WF qt gt))
    (he : ∀ (R2 : Addr → Prop) (s : Shared) (H : Hp) (C : Addr) (cl : List (Str × Addr)) (fp : List Addr), PE (X.blk s H scope (compEnvC scope cl C X.env) fp) elt (tO X.K R2 M' xr WF qe fe ge)) :
    (∀ (s : Shared) (H : Hp) (C : Addr) (cl : List (Str × Addr)) (fp : List Addr), PG (X.blk s H scope (compEnvC scope cl C X.env) fp) tg (lcG X.K M' t)) ∧
    (∀ (s : Shared) (H : Hp) (C : Addr) (cl : List (Str × Addr)) (fp : List Addr), PTs (X.blk s H scope (compEnvC scope cl C X.env) fp) ifs (lcT X.K M' xr qt gt)) ∧
    (∀ (s : Shared) (H : Hp) (C : Addr) (cl : List (Str × Addr)) (fp : List Addr), PE (X.blk s H scope (compEnvC scope cl C X.env) fp) elt (lcE X.K M' xr qe fe ge)) := by
  refine ⟨fun s H C cl fp => ⟨fun pins s1 σ H1 v u Q I r h => ?_⟩, fun s H C cl fp => ⟨fun pins s1 σ H1 Q I ⟨R2, h2⟩ => (ht R2 s H C cl fp).run pins s1 σ H1 Q I h2⟩, fun s H C cl fp => ⟨fun pins s1 σ H1 Q I ⟨R2, h2⟩ => (he R2 s H C cl fp).run pins s1 σ H1 Q I h2⟩⟩
  obtain ⟨R2, h2⟩ := h (Inv.kf (X := X.blk s H scope (compEnvC scope cl C X.env) fp) I)
  exact (hg R2 s H C cl fp).run pins s1 σ H1 v u Q I r h2
theorem comp_t {K : PySem.W.Frag} {Q : VK} (hMM : MW M M') (hv : ∀ i ∈ own.map (·.2), md M i = .shr) (htv : ∀ i ∈ varsT t, i ∈ own.map (·.2)) (hfe : fe ≠ .bor) (hfl : fl ≠ .bor)
    (h : tO K R0 M xr W (qi && (qt && qe)) fl (fun ρ => (gi ρ).bind (compO t gt ge (own.map (·.2)))) σ H Q) : tLc (tI K R0 M M' xr W qi gi) (lcG K M' t) (lcT K M' xr qt gt) (lcE K M' xr qe fe ge) (own.map (·.2)) σ H (fun v H' => KF K H' → Q v H') := by
  have hv' : ∀ i ∈ own.map (·.2), md M' i = .shr := fun i hi => by
    rcases hMM.md i with e | ⟨_, e, _⟩
    · rw [e]; exact hv i hi
    · rw [hv i hi] at e; cases e
  obtain ⟨ρ, env, h⟩ := h
  refine ⟨ρ, env, ?_⟩
  dsimp only at h
  cases e : gi ρ with
  | stuck => rw [e] at h; exact h.elim
  | exc c p ρ1 => rw [e] at h; exact h
  | ok xs ρ0 =>
    rw [e] at h
    dsimp only [Out.bind] at h
    intro J H1 m ⟨hz, G, src⟩ Dn hDn
    rw [← m.rr] at src
    have hne : ∀ a o, H1 a = some o → a ≠ Dn := fun a o e z => by rw [z, hDn] at e; cases e
    unfold compO at h
    cases et : compLoop (compStep t gt ge (own.map (·.2))) xs [] (wipeE (own.map (·.2)) ρ0) with
    | stuck => rw [et] at h; exact h.elim
    | exc _ _ _ => rw [et] at h; exact h.elim
    | ok ds ρz =>
      rw [et] at h
      dsimp only at h
      refine lc_it (g := fun x σ H Q => KF K H → ∃ R2, gT K R2 M' t x σ H Q) (tt := fun σ H Q => ∃ R2, tT K R2 M' xr WF qt gt σ H Q) (te := fun σ H Q => ∃ R2, tO K R2 M' xr WF qe fe ge σ H Q) (vs := own.map (·.2)) (σ := σ) (H1 := H1) (D := Dn) (Qd := fun H' => KF K H' → Q (.ref Dn) H') src.walk (fun i H => G H ∧ (KF K H → ∃ ρe acc accV, CInv K R0 M M' (qt && qe) σ H1 ρ0 (own.map (·.2)) Dn (.ok ds ρz) (compStep t gt ge (own.map (·.2))) (xs.drop i) i H ρe acc accV)) ?_ (fun i H _ p => p.1) ?_ ?_
      · refine ⟨src.stab _ fun b o e n => by rw [upd_ne (hne b o e)]; exact e, fun kf => ⟨wipeE (own.map (·.2)) ρ0, [], [], by rw [List.drop_zero]; exact et.symm, ((m.env.weakM hMM).laid hDn kf).wipe hv', .refl, fun _ => ⟨rfl, fun a o e => by rw [upd_ne (hne a o e)]; exact e⟩,
          ⟨fun a o e _ => by rw [upd_ne (hne a o e)]; exact e, fun a h => ?_⟩, upd_same, .nil, Nat.le_refl _⟩⟩
        by_cases z : a = Dn
        · rw [z, upd_same]; exact fun z => by cases z
        · rw [upd_ne z]; exact h
      · rintro i x Hx H' hi2 ⟨gx, inv⟩ ⟨rfl, d, hd, rx⟩ kf
        obtain ⟨ρe, acc, accV, c⟩ := inv kf
        have hdrop : xs.drop i = d :: xs.drop (i + 1) := by
          rw [List.drop_eq_getElem_cons hi2]
          rw [List.getElem?_eq_getElem hi2] at hd
          rw [Option.some.inj hd]
        rw [hdrop] at c
        have kfD : K.lookup Dn = none := by
          cases z : K.lookup Dn with
          | none => rfl
          | some o => have := kf Dn o z; rw [c.new] at this; cases this
        exact comp_turn hMM hv htv hfe m.env hDn kfD ⟨_, _, rfl⟩ (by rw [sizeLine_eq]; have : xs.length ≤ 16777216 := hz; omega) c (rx.mono fun b o e n => ⟨c.frm.keep b o e fun z => n (.inr (hMM.ownA z)), fun z => z.elim n (hne b o e)⟩) fun H2 ρ2 acc2 accV2 c2 => ⟨src.stab _ c2.frm.keep, fun _ => ⟨ρ2, acc2, accV2, c2⟩⟩
      · rintro H2 ⟨_, inv⟩ kf
        obtain ⟨ρe, acc, accV, c⟩ := inv kf
        rw [List.drop_length] at c
        obtain ⟨e1, mv, vo⟩ := comp_end (fl := fl) hMM hv m hDn c hz hfl
        cases e1
        exact h _ H2 mv vo
theorem x_comp (hc : X.calm = true) (hN : X.N.Nodup) (hi : PI X tg iter (tI X.K R0 M M' xr W qi gi)) (ok : BlkOk X.N X.env.scope scope own)
    (hMM : MW M M') (hv : ∀ i ∈ own.map (·.2), md M i = .shr) (htv : ∀ i ∈ varsT t, i ∈ own.map (·.2)) (hfe : fe ≠ .bor) (hfl : fl ≠ .bor)
    (hg : ∀ (R2 : Addr → Prop) (s : Shared) (H : Hp) (C : Addr) (cl : List (Str × Addr)) (fp : List Addr), PG (X.blk s H scope (compEnvC scope cl C X.env) fp) tg (gT X.K R2 M' t))
    (ht : ∀ (R2 : Addr → Prop) (s : Shared) (H : Hp) (C : Addr) (cl : List (Str × Addr)) (fp : List Addr), PTs (X.blk s H scope (compEnvC scope cl C X.env) fp) ifs (tT X.K R2 M' xr WF qt gt))
    (he : ∀ (R2 : Addr → Prop) (s : Shared) (H : Hp) (C : Addr) (cl : List (Str × Addr)) (fp : List Addr), PE (X.blk s H scope (compEnvC scope cl C X.env) fp) elt (tO X.K R2 M' xr WF qe fe ge)) (hs : ∀ x, foldedSetIterable iter X.env x = pure x) :
    PE X (.ListComp elt [⟨tg, iter, ifs, 0⟩] scope pos) (tO X.K R0 M xr W (qi && (qt && qe)) fl fun ρ => (gi ρ).bind (compO t gt ge (own.map (·.2)))) := by
  obtain ⟨hg', ht', he'⟩ := lc_parts hg ht he
  exact PE.monoK (pe_lc hc hN hi ok hg' ht' he' hs) fun σ H Q h => comp_t hMM hv htv hfe hfl h
end
end
end Ev
end -- EvX7

section -- EvS1
set_option Elab.async false
set_option linter.all false
set_option maxRecDepth 100000
set_option maxHeartbeats 1000000
/-! EvS1: statements: the judgement, plain rules. -/
namespace Ev
open PySem PySem.Spec PyProof.Rows L2

/-- held alone by a name of the body's own -/
def OwnO (M : List Mode) (ρ : Env) (σ : L2.St) (a : Addr) : Prop := ∃ i, md M i = .own ∧ OwnI M ρ σ i a
def OwnR (R0 : Addr → Prop) (M : List Mode) (ρ : Env) (σ : L2.St) : Prop := ∀ a, OwnO M ρ σ a → ¬ R0 a
structure MvS (K : PySem.W.Frag) (R0 : Addr → Prop) (M : List Mode) (H : Hp) (σ : L2.St) (ρ : Env) (H' : Hp) (σ' : L2.St) (ρ' : Env) : Prop where
  env : EnvOk K R0 M σ' H' ρ'
  ownR : OwnR R0 M ρ' σ'
  keep : ∀ a o, H a = some o → ¬ OwnA M ρ σ a → H' a = some o
  there : ∀ a, H a ≠ none → H' a ≠ none
  ownO : ∀ a, OwnO M ρ' σ' a → OwnO M ρ σ a ∨ H a = none
  io : ∀ i, md M i = .io ∨ md M i = .bor → σ'[i]? = σ[i]? ∧ ((∃ d, gv ρ' i = some d) ↔ ∃ d, gv ρ i = some d)
/-- what a def hands back -/
def RetOk (K : PySem.W.Frag) (R0 : Addr → Prop) (M : List Mode) (ρ : Env) (σ : L2.St) (fr : Bool) (H H' : Hp) (d : D) (v : V) : Prop :=
  if fr then (match d with
    | .lst ds => ∃ a vs, v = .ref a ∧ (OwnO M ρ σ a ∨ H a = none) ∧ ¬ R0 a ∧ H' a = some (.lst vs) ∧ RepL K (fun b => R0 b ∨ b = a) H' ds vs ∧ ds.length ≤ LIM
    | d => Rep K R0 H' d v)
  else Rep K R0 H' d v
def RestS (K : PySem.W.Frag) (R0 : Addr → Prop) (M : List Mode) (xr : XR) (W : WX) (fr : Bool) (σ : L2.St) (H : Hp) (ρ : Env) (D : Ends) (o : SOut) : Prop := match o with
  | .next ρ' => ∀ σ' H', MvS K R0 M H σ ρ H' σ' ρ' → D.nx σ' H'
  | .brk ρ' => ∀ σ' H', MvS K R0 M H σ ρ H' σ' ρ' → D.bk σ' H'
  | .cont ρ' => ∀ σ' H', MvS K R0 M H σ ρ H' σ' ρ' → D.ct σ' H'
  | .ret d ρ' => ∀ v σ' H', MvS K R0 M H σ ρ H' σ' ρ' → RetOk K R0 M ρ σ fr H H' d v → D.rt v H'
  | .exc c p ρ' => ∀ cv dx σ' H', MvS K R0 M H σ ρ H' σ' ρ' → xr R0 H' c p cv dx → W cv dx σ' H'
  | .stuck => False
def tS (K : PySem.W.Frag) (R0 : Addr → Prop) (M : List Mode) (xr : XR) (W : WX) (fr : Bool) (g : Env → SOut) : TS := fun D σ H => ∃ ρ, EnvOk K R0 M σ H ρ ∧ OwnR R0 M ρ σ ∧ RestS K R0 M xr W fr σ H ρ D (g ρ)
/-- exceptions' data bear less being shut out -/
def XrOk (xr : XR) : Prop := ∀ (R R' : Addr → Prop) (H : Hp) c p cv dx, (∀ a, R' a → R a) → xr R H c p cv dx → xr R' H c p cv dx
section
variable {K : PySem.W.Frag} {R0 : Addr → Prop} {M : List Mode} {xr : XR} {W : WX} {fr q : Bool} {fl : Fl} {σ σ1 σ2 : L2.St} {H H' H1 H2 : Hp} {ρ ρ1 ρ2 : Env} {d : D} {v : V} {D1 : Ends}
theorem ownA_iff {a : Addr} : OwnA M ρ σ a ↔ OwnO M ρ σ a ∨ ∃ i, md M i = .io ∧ OwnI M ρ σ i a := by
  refine ⟨fun ⟨i, h⟩ => ?_, fun h => ?_⟩
  · cases e : md M i with
    | shr => have := h.1; rw [e] at this; cases this
    | bor => have := h.1; rw [e] at this; cases this
    | own => exact .inl ⟨i, e, h⟩
    | io => exact .inr ⟨i, e, h⟩
  · rcases h with ⟨i, _, h⟩ | ⟨i, _, h⟩
    · exact ⟨i, h⟩
    · exact ⟨i, h⟩
theorem MvS.ownA (m : MvS K R0 M H σ ρ H1 σ1 ρ1) {a : Addr} (h : OwnA M ρ1 σ1 a) : OwnA M ρ σ a ∨ H a = none := by
  rcases ownA_iff.mp h with h | ⟨i, e, h⟩
  · rcases m.ownO a h with h | h
    · exact .inl (ownA_iff.mpr (.inl h))
    · exact .inr h
  · exact .inl ⟨i, h.1, (m.io i (.inl e)).2.mp h.2.1, by rw [← (m.io i (.inl e)).1]; exact h.2.2⟩
theorem MvS.refl (e : EnvOk K R0 M σ H ρ) (r : OwnR R0 M ρ σ) : MvS K R0 M H σ ρ H σ ρ := ⟨e, r, fun _ _ h _ => h, fun _ h => h, fun _ h => .inl h, fun _ _ => ⟨rfl, Iff.rfl⟩⟩
theorem MvS.trans (a : MvS K R0 M H σ ρ H1 σ1 ρ1) (b : MvS K R0 M H1 σ1 ρ1 H2 σ2 ρ2) : MvS K R0 M H σ ρ H2 σ2 ρ2 := by
  refine ⟨b.env, b.ownR, fun x o h n => b.keep x o (a.keep x o h n) fun z => ?_, fun x h => b.there x (a.there x h), fun x h => ?_, fun i hi => ⟨(b.io i hi).1.trans (a.io i hi).1, (b.io i hi).2.trans (a.io i hi).2⟩⟩
  · rcases a.ownA z with z | z
    · exact n z
    · rw [z] at h; cases h
  · rcases b.ownO x h with h | h
    · exact a.ownO x h
    · refine .inr ?_
      cases e : H x with
      | none => rfl
      | some o => exact absurd h (a.there x (by rw [e]; exact fun z => by cases z))
theorem ownO_live (l : SameLive ρ ρ1) {a : Addr} : OwnO M ρ1 σ a ↔ OwnO M ρ σ a := exists_congr fun i => and_congr_right fun _ => l.own
theorem Mv.toS (m : Mv K R0 M σ q H ρ H1 ρ1) (r : OwnR R0 M ρ σ) : MvS K R0 M H σ ρ H1 σ ρ1 :=
  ⟨m.env, fun a h => r a ((ownO_live m.live).mp h), m.frm.keep, m.frm.there, fun a h => .inl ((ownO_live m.live).mp h), fun i _ => ⟨rfl, m.live.2 i⟩⟩
theorem Bnd.toS {vs : List Nat} (b : Bnd vs σ ρ σ1 ρ1) (e : EnvOk K R0 M σ1 H ρ1) (hs : ∀ i ∈ vs, md M i = .shr) (r : OwnR R0 M ρ σ) : MvS K R0 M H σ ρ H σ1 ρ1 := by
  have ho : ∀ a, OwnO M ρ1 σ1 a ↔ OwnO M ρ σ a := fun a => exists_congr fun i => and_congr_right fun _ => b.own hs
  refine ⟨e, fun a h => r a ((ho a).mp h), fun _ _ h _ => h, fun _ h => h, fun a h => .inl ((ho a).mp h), fun i hi => ?_⟩
  have : i ∉ vs := fun z => by rw [hs i z] at hi; rcases hi with hi | hi <;> cases hi
  rw [(b.out i this).1, (b.out i this).2]
  exact ⟨rfl, Iff.rfl⟩
theorem RetOk.pre (m : MvS K R0 M H σ ρ H1 σ1 ρ1) (h : RetOk K R0 M ρ1 σ1 fr H1 H' d v) : RetOk K R0 M ρ σ fr H H' d v := by
  unfold RetOk at h ⊢
  cases fr with
  | false => exact h
  | true =>
    rw [if_pos rfl] at h ⊢
    cases d with
    | lst ds =>
      obtain ⟨a, vs, e, h0, h1⟩ := h
      refine ⟨a, vs, e, ?_, h1⟩
      rcases h0 with h0 | h0
      · exact m.ownO a h0
      · refine .inr ?_
        cases e : H a with
        | none => rfl
        | some o => exact absurd h0 (m.there a (by rw [e]; exact fun z => by cases z))
    | _ => exact h
/-- what comes behind -/
theorem RestS.pre {o : SOut} (m : MvS K R0 M H σ ρ H1 σ1 ρ1) (h : RestS K R0 M xr W fr σ H ρ D1 o) : RestS K R0 M xr W fr σ1 H1 ρ1 D1 o := by
  cases o with
  | next ρ2 => exact fun σ' H' m2 => h σ' H' (m.trans m2)
  | brk ρ2 => exact fun σ' H' m2 => h σ' H' (m.trans m2)
  | cont ρ2 => exact fun σ' H' m2 => h σ' H' (m.trans m2)
  | ret d ρ2 => exact fun v σ' H' m2 r => h v σ' H' (m.trans m2) (r.pre m)
  | exc c p ρ2 => exact fun cv dx σ' H' m2 x => h cv dx σ' H' (m.trans m2) x
  | stuck => exact h
/-- an expression ahead -/
theorem exS {g : Env → Out D} {f : D → Env → SOut} {r : V → Hp → Prop} (hx : XrOk xr) (env : EnvOk K R0 M σ H ρ) (ow : OwnR R0 M ρ σ) (h : RestS K R0 M xr W fr σ H ρ D1 ((g ρ).toS f))
    (k : ∀ d ρ1 v H1, Mv K R0 M σ q H ρ H1 ρ1 → VOk K (Rr R0 M ρ σ) fl H H1 d v → RestS K R0 M xr W fr σ H1 ρ1 D1 (f d ρ1) → RestS K R0 M xr W fr σ H ρ D1 (f d ρ1) → r v H1) : tO K R0 M xr W q fl g σ H r := by
  refine ⟨ρ, env, ?_⟩
  cases e : g ρ with
  | stuck => rw [e] at h; exact h.elim
  | exc c p ρ1 =>
    rw [e] at h
    exact fun cv dx H1 m x => h cv dx σ H1 (m.toS ow) (hx _ _ _ _ _ _ _ (fun a z => .inl z) x)
  | ok d ρ1 =>
    rw [e] at h
    exact fun v H1 m vo => k d ρ1 v H1 m vo (h.pre (m.toS ow)) h
theorem exB {g : Env → Out Bool} {f : Bool → Env → SOut} {r : Bool → Hp → Prop} (hx : XrOk xr) (env : EnvOk K R0 M σ H ρ) (ow : OwnR R0 M ρ σ) (h : RestS K R0 M xr W fr σ H ρ D1 ((g ρ).toS f))
    (k : ∀ b ρ1 H1, Mv K R0 M σ q H ρ H1 ρ1 → RestS K R0 M xr W fr σ H1 ρ1 D1 (f b ρ1) → r b H1) : tT K R0 M xr W q g σ H r := by
  refine ⟨ρ, env, ?_⟩
  cases e : g ρ with
  | stuck => rw [e] at h; exact h.elim
  | exc c p ρ1 =>
    rw [e] at h
    exact fun cv dx H1 m x => h cv dx σ H1 (m.toS ow) (hx _ _ _ _ _ _ _ (fun a z => .inl z) x)
  | ok b ρ1 =>
    rw [e] at h
    exact fun H1 m => k b ρ1 H1 m (h.pre (m.toS ow))
end

section
variable {X : Cx} {R0 : Addr → Prop} {M : List Mode} {xr : XR} {W : WX} {fr q : Bool} {fl : Fl} {σ : L2.St} {H H' H1 H2 : Hp} {ρ ρ1 ρ2 : Env} {g : Env → Out D} {e : Expr} {pos : Pos}
theorem s_pass : PS X (.Pass pos) (tS X.K R0 M xr W fr fun ρ => .next ρ) := PS.mono ps_pass fun D σ H ⟨ρ, env, ow, h⟩ => h σ H (.refl env ow)
theorem s_break : PS X (.Break pos) (tS X.K R0 M xr W fr fun ρ => .brk ρ) := PS.mono ps_break fun D σ H ⟨ρ, env, ow, h⟩ => h σ H (.refl env ow)
theorem s_cont : PS X (.Continue pos) (tS X.K R0 M xr W fr fun ρ => .cont ρ) := PS.mono ps_continue fun D σ H ⟨ρ, env, ow, h⟩ => h σ H (.refl env ow)
theorem s_nil : PSs X [] (tS X.K R0 M xr W fr fun ρ => .next ρ) := PSs.mono pss_nil fun D σ H ⟨ρ, env, ow, h⟩ => h σ H (.refl env ow)
theorem s_cons {s : Stmt} {ss : List Stmt} {g1 g2 : Env → SOut} (h1 : PS X s (tS X.K R0 M xr W fr g1)) (h2 : PSs X ss (tS X.K R0 M xr W fr g2)) : PSs X (s :: ss) (tS X.K R0 M xr W fr fun ρ => (g1 ρ).then g2) :=
  PSs.mono (pss_cons h1 h2) fun D σ H ⟨ρ, env, ow, h⟩ => by
    refine ⟨ρ, env, ow, ?_⟩
    dsimp only at h
    cases e : g1 ρ with
    | next ρ1 =>
      rw [e] at h
      exact fun σ1 H1 m => ⟨ρ1, m.env, m.ownR, RestS.pre m h⟩
    | brk ρ1 => rw [e] at h; exact h
    | cont ρ1 => rw [e] at h; exact h
    | ret d ρ1 => rw [e] at h; exact h
    | exc c p ρ1 => rw [e] at h; exact h
    | stuck => rw [e] at h; exact h
theorem s_expr (hx : XrOk xr) (he : PE X e (tO X.K R0 M xr W q fl g)) (hs : swapsWith e none pos.line X.env = pure false) : PS X (.Expr e pos) (tS X.K R0 M xr W fr fun ρ => (g ρ).toS fun _ ρ => .next ρ) :=
  PS.mono (ps_expr he hs) fun D σ H ⟨ρ, env, ow, h⟩ => exS (q := q) (fl := fl) hx env ow h fun d ρ1 v H1 m vo h1 _ => h1 σ H1 (.refl m.env fun a z => ow a ((ownO_live m.live).mp z))
theorem s_retN : PS X (.Return none pos) (tS X.K R0 M xr W fr fun ρ => .ret .non ρ) := PS.mono ps_retN fun D σ H ⟨ρ, env, ow, h⟩ => h .non σ H (.refl env ow) (by unfold RetOk; cases fr <;> exact .non)
theorem s_ret (hx : XrOk xr) (he : PE X e (tO X.K R0 M xr W q fl g)) (hfl : fl ≠ .bor) (hfr : fr = true → fl = .fresh) : PS X (.Return (some e) pos) (tS X.K R0 M xr W fr fun ρ => (g ρ).toS fun d ρ => .ret d ρ) :=
  PS.mono (ps_ret he) fun D σ H ⟨ρ, env, ow, h⟩ => exS (q := q) (fl := fl) hx env ow h fun d ρ1 v H1 m vo _ h2 => h2 v σ H1 (m.toS ow) (by
    have hd : ∀ a, Rr R0 M ρ σ a → H a ≠ none := fun a z => env.domR z
    have rp : Rep X.K R0 H1 d v := (vo.rep hfl hd).mono fun a o z n => ⟨z, fun w => n (.inl w)⟩
    unfold RetOk
    cases fr with
    | false => exact rp
    | true =>
      rw [if_pos rfl]
      cases d with
      | lst ds =>
        rw [hfr rfl] at vo
        obtain ⟨a, vs, e, h0, h1, t, z⟩ := vo
        exact ⟨a, vs, e, .inr h0, fun w => env.dom a w h0, h1, t.mono fun b o z n => ⟨z, fun w => n (w.elim (fun w => .inl (.inl w)) .inr)⟩, z⟩
      | _ => exact rp)
theorem s_if {c : Expr} {a b : List Stmt} {gc : Env → Out Bool} {g1 g2 : Env → SOut} (hx : XrOk xr) (hc : PT X c (tT X.K R0 M xr W q gc)) (ha : PSs X a (tS X.K R0 M xr W fr g1)) (hb : PSs X b (tS X.K R0 M xr W fr g2)) :
    PS X (.If c a b pos) (tS X.K R0 M xr W fr fun ρ => (gc ρ).toS fun t ρ => if t then g1 ρ else g2 ρ) :=
  PS.mono (ps_if hc ha hb) fun D σ H ⟨ρ, env, ow, h⟩ => exB (q := q) hx env ow h fun t ρ1 H1 m h1 => by
    have ow1 : OwnR R0 M ρ1 σ := fun a z => ow a ((ownO_live m.live).mp z)
    cases t with
    | true => exact ⟨ρ1, m.env, ow1, h1⟩
    | false => exact ⟨ρ1, m.env, ow1, h1⟩
theorem s_asg {tg : Expr} {t : T} (hx : XrOk xr) (he : PE X e (tO X.K R0 M xr W q fl g)) (hfl : fl ≠ .bor) (hg : PG X tg (gT X.K R0 M t)) (hm : ∀ i ∈ varsT t, md M i = .shr)
    (hs : swapsWithSole [tg] e pos.line X.env = pure false) (hw : swappedStores [tg] e X.env = pure none) (h1 : (assignEach [tg] X.env).map (·.2) = [assign tg X.env]) :
    PS X (.Assign [tg] e pos) (tS X.K R0 M xr W fr fun ρ => (g ρ).toS fun d ρ => match bindT t d ρ with
      | some ρ => .next ρ
      | none => .stuck) :=
  PS.mono (ps_asg he hg hs hw h1) fun D σ H ⟨ρ, env, ow, h⟩ => exS (q := q) (fl := fl) hx env ow h fun d ρ1 v H1 m vo h1 _ => by
    have ow1 : OwnR R0 M ρ1 σ := fun a z => ow a ((ownO_live m.live).mp z)
    cases eb : bindT t d ρ1 with
    | none => rw [eb] at h1; exact h1.elim
    | some ρ2 =>
      rw [eb] at h1
      have r := vo.rep hfl fun a z => env.domR z
      rw [← m.rr] at r
      exact ⟨ρ1, d, ρ2, m.env, r, eb, fun σ2 e2 b2 => h1 σ2 H1 (b2.toS e2 hm ow1)⟩
/-- name = value -/
theorem set_t {K : PySem.W.Frag} {D : Ends} {i : Nat} (hx : XrOk xr) (hfl : fl ≠ .bor) (hm : md M i = .shr) (h : tS K R0 M xr W fr (fun ρ => (g ρ).toS fun d ρ => match bindT (.name i) d ρ with
      | some ρ => .next ρ
      | none => .stuck) D σ H) : tO K R0 M xr W q fl g σ H fun v H1 => D.nx (σ.set i (some v)) H1 := by
  obtain ⟨ρ, env, ow, h⟩ := h
  exact exS (q := q) (fl := fl) hx env ow h fun d ρ1 v H1 m vo h1 _ => by
    have ow1 : OwnR R0 M ρ1 σ := fun a z => ow a ((ownO_live m.live).mp z)
    have r := vo.rep hfl fun a z => env.domR z
    rw [← m.rr] at r
    obtain ⟨e2, b2⟩ := m.env.put hm r
    exact h1 _ H1 (b2.toS e2 (fun j hj => by have : j = i := by simpa using hj
                                             rw [this]; exact hm) ow1)
theorem s_set {i : Nat} {x : Str} {p : Pos} (hx : XrOk xr) (he : PE X e (tO X.K R0 M xr W q fl g)) (hfl : fl ≠ .bor) (hm : md M i = .shr) (hN : X.N.Nodup) (hi : X.N[i]? = some x) (hl : Loc X.env.scope x) (hf : X.fn x = true ∨ X.env.scope.names.lookup x = some .local)
    (hs : swapsWith e (some (.Name x p)) pos.line X.env = pure false) :
    PS X (.Assign [.Name x p] e pos) (tS X.K R0 M xr W fr fun ρ => (g ρ).toS fun d ρ => match bindT (.name i) d ρ with
      | some ρ => .next ρ
      | none => .stuck) :=
  PS.mono (ps_set hN hi hl he hs hf) fun D σ H h => set_t hx hfl hm h
end
end Ev
end -- EvS1

section -- EvS2
set_option Elab.async false
set_option linter.all false
set_option maxRecDepth 100000
set_option maxHeartbeats 1000000
/-! EvS2: statements about lists that a name holds alone. -/
namespace Ev
open PySem PySem.Spec PyProof.Rows L2
section
variable {K : PySem.W.Frag} {R0 : Addr → Prop} {M : List Mode} {σ σ1 : L2.St} {H H' H1 : Hp} {ρ ρ1 : Env} {d : D} {v : V} {a : Addr}
/-- nothing changed, and a is new: the names do not touch it -/
theorem EnvOk.addNew (e : EnvOk K R0 M σ H ρ) (s : Same H H1) (h0 : H a = none) (h1 : H1 a ≠ none) (kf : KF K H1) : EnvOk K (fun b => R0 b ∨ b = a) M σ H1 ρ := by
  have hne : ∀ b u, H b = some u → b ≠ a := fun b u z w => by rw [w, h0] at z; cases z
  have k : ∀ b u, H b = some u → ¬ Rr R0 M ρ σ b → H1 b = some u ∧ ¬ Rr (fun b => R0 b ∨ b = a) M ρ σ b := fun b u z n => ⟨s b u z, fun w => by
    rcases w with (w | w) | w
    · exact n (.inl w)
    · exact hne b u z w
    · exact n (.inr w)⟩
  refine ⟨e.len, fun i d hd => ?_, e.dist, e.bor, fun b z => ?_, kf⟩
  · obtain ⟨v, hv, so⟩ := e.slot i d hd
    exact ⟨v, hv, so.mono k fun _ b u _ z => s b u z⟩
  · rcases z with z | z
    · cases w : H b with
      | none => exact absurd w (e.dom b z)
      | some u => rw [s b u w]; exact fun z => by cases z
    · rw [z]; exact h1
theorem ownI_set {i j : Nat} {x : D} {w : V} (hi : i < ρ.length) (hl : ρ.length = σ.length) {b : Addr} : OwnI M (ρ.set i (some x)) (σ.set i (some w)) j b ↔ (j = i ∧ (md M i).isOwn = true ∧ w = .ref b) ∨ (j ≠ i ∧ OwnI M ρ σ j b) := by
  unfold OwnI
  by_cases e : j = i
  · subst e
    rw [gv_set hi, if_pos rfl, List.getElem?_set_self (by rw [← hl]; exact hi)]
    refine ⟨fun ⟨h1, _, h3⟩ => .inl ⟨rfl, h1, by cases h3; rfl⟩, fun h => ?_⟩
    rcases h with ⟨_, h1, h2⟩ | ⟨h, _⟩
    · exact ⟨h1, ⟨x, rfl⟩, by rw [h2]⟩
    · exact absurd rfl h
  · rw [gv_set hi, if_neg e, List.getElem?_set_ne (Ne.symm e)]
    exact ⟨fun h => .inr ⟨e, h⟩, fun h => h.elim (fun h => absurd h.1 e) fun h => h.2⟩
/-- a list that no name touches goes into a name of its own -/
theorem EnvOk.putO (e : EnvOk K (fun b => R0 b ∨ b = a) M σ H ρ) (ow : OwnR R0 M ρ σ) (hn : ¬ OwnA M ρ σ a) (hb : ∀ j d, md M j = .bor → gv ρ j = some d → σ[j]? ≠ some (some (.ref a))) (hR : ¬ R0 a) {i : Nat} (hm : md M i = .own) {ds : List D} {vs : List V} (h1 : H a = some (.lst vs)) (t : RepL K (fun b => Rr R0 M ρ σ b ∨ b = a) H ds vs) (hz : ds.length ≤ LIM) :
    EnvOk K R0 M (σ.set i (some (.ref a))) H (ρ.set i (some (.lst ds))) ∧ OwnR R0 M (ρ.set i (some (.lst ds))) (σ.set i (some (.ref a))) ∧
      (∀ b, OwnO M (ρ.set i (some (.lst ds))) (σ.set i (some (.ref a))) b → OwnO M ρ σ b ∨ b = a) ∧
      ∀ j, md M j = .io ∨ md M j = .bor → (σ.set i (some (.ref a)))[j]? = σ[j]? ∧ ((∃ d, gv (ρ.set i (some (.lst ds))) j = some d) ↔ ∃ d, gv ρ j = some d) := by
  by_cases hi : i < ρ.length
  · have oi : ∀ {j b}, OwnI M (ρ.set i (some (.lst ds))) (σ.set i (some (.ref a))) j b → (j = i ∧ b = a) ∨ (j ≠ i ∧ OwnI M ρ σ j b) := fun {j b} h => by
      rcases (ownI_set hi e.len).mp h with ⟨h1, _, h2⟩ | h
      · exact .inl ⟨h1, by cases h2; rfl⟩
      · exact .inr h
    have ra : ∀ {b}, Rr R0 M (ρ.set i (some (.lst ds))) (σ.set i (some (.ref a))) b → Rr R0 M ρ σ b ∨ b = a := fun {b} h => by
      rcases h with h | ⟨j, h⟩
      · exact .inl (.inl h)
      · rcases oi h with ⟨_, h⟩ | ⟨_, h⟩
        · exact .inr h
        · exact .inl (.inr ⟨j, h⟩)
    have k : ∀ b u, H b = some u → ¬ Rr (fun b => R0 b ∨ b = a) M ρ σ b → H b = some u ∧ ¬ Rr R0 M (ρ.set i (some (.lst ds))) (σ.set i (some (.ref a))) b := fun b u z n => ⟨z, fun w => by
      rcases ra w with (w | w) | w
      · exact n (.inl (.inl w))
      · exact n (.inr w)
      · exact n (.inl (.inr w))⟩
    refine ⟨⟨by simp [e.len], fun j d hd => ?_, fun x y b hx hy => ?_, fun j b d hmj hs hd hu => ?_, fun b z => e.dom b (.inl z), e.kf⟩, fun b ⟨j, hj, o⟩ => ?_, fun b ⟨j, hj, o⟩ => ?_, fun j hj => ?_⟩
    · by_cases w : j = i
      · subst w
        rw [gv_set hi, if_pos rfl] at hd
        cases hd
        refine ⟨.ref a, by rw [List.getElem?_set_self (by rw [← e.len]; exact hi)], ?_⟩
        rw [hm]
        exact ⟨a, vs, rfl, h1, t.mono fun b u z n => ⟨z, fun w => n (ra w)⟩, hz⟩
      · rw [gv_set hi, if_neg w] at hd
        obtain ⟨v, hv, so⟩ := e.slot j d hd
        exact ⟨v, by rw [List.getElem?_set_ne (Ne.symm w)]; exact hv, so.mono k fun _ _ _ _ z => z⟩
    · rcases oi hx with ⟨x1, x2⟩ | ⟨x1, x2⟩
      · rcases oi hy with ⟨y1, y2⟩ | ⟨y1, y2⟩
        · rw [x1, y1]
        · subst x2; exact absurd ⟨y, y2⟩ hn
      · rcases oi hy with ⟨y1, y2⟩ | ⟨y1, y2⟩
        · subst y2; exact absurd ⟨x, x2⟩ hn
        · exact e.dist x y b x2 y2
    · have w : j ≠ i := fun w => by rw [w, hm] at hmj; cases hmj
      rw [gv_set hi, if_neg w] at hd
      rw [List.getElem?_set_ne (Ne.symm w)] at hs
      rintro ⟨x, ox⟩
      rcases oi ox with ⟨_, x2⟩ | ⟨_, x2⟩
      · subst x2
        exact hb j d hmj hd hs
      · exact e.bor j b d hmj hs hd hu ⟨x, x2⟩
    · rcases oi o with ⟨_, h⟩ | ⟨_, h⟩
      · rw [h]; exact hR
      · exact ow b ⟨j, hj, h⟩
    · rcases oi o with ⟨_, h⟩ | ⟨_, h⟩
      · exact .inr h
      · exact .inl ⟨j, hj, h⟩
    · have w : j ≠ i := fun w => by rw [w, hm] at hj; rcases hj with hj | hj <;> cases hj
      rw [gv_set hi, if_neg w, List.getElem?_set_ne (Ne.symm w)]
      exact ⟨rfl, Iff.rfl⟩
  · have e1 : ρ.set i (some (.lst ds)) = ρ := List.set_eq_of_length_le (by omega)
    have e2 : σ.set i (some (.ref a)) = σ := List.set_eq_of_length_le (by rw [← e.len]; omega)
    rw [e1, e2]
    exact ⟨e.lessR, ow, fun b h => .inl h, fun j _ => ⟨rfl, Iff.rfl⟩⟩
/-- a name let go -/
theorem EnvOk.drop (e : EnvOk K R0 M σ H ρ) {j : Nat} (o : OwnI M ρ σ j a) : EnvOk K (fun b => R0 b ∨ b = a) M σ H (ρ.set j none) ∧ ¬ OwnA M (ρ.set j none) σ a ∧ (∀ b, OwnA M (ρ.set j none) σ b → OwnA M ρ σ b) ∧ ∀ b, OwnO M (ρ.set j none) σ b → OwnO M ρ σ b := by
  have gd : ∀ {k d}, gv (ρ.set j none) k = some d → k ≠ j ∧ gv ρ k = some d := fun {k d} h => by
    rw [gv_none_set] at h
    by_cases w : k = j ∧ j < ρ.length
    · rw [if_pos w] at h; cases h
    · rw [if_neg w] at h
      refine ⟨fun z => w ⟨z, ?_⟩, h⟩
      rw [e.len]
      exact (List.getElem?_eq_some_iff.mp o.2.2).1
  have oi : ∀ {k b}, OwnI M (ρ.set j none) σ k b → k ≠ j ∧ OwnI M ρ σ k b := fun {k b} ⟨h1, ⟨d, h2⟩, h3⟩ => ⟨(gd h2).1, h1, ⟨d, (gd h2).2⟩, h3⟩
  have na : ¬ OwnA M (ρ.set j none) σ a := fun ⟨k, h⟩ => (oi h).1 (e.dist k j a (oi h).2 o)
  have rr : ∀ {b}, Rr (fun b => R0 b ∨ b = a) M (ρ.set j none) σ b → Rr R0 M ρ σ b := fun {b} h => by
    rcases h with (h | h) | ⟨k, h⟩
    · exact .inl h
    · exact .inr ⟨j, by rw [h]; exact o⟩
    · exact .inr ⟨k, (oi h).2⟩
  refine ⟨⟨by simp [e.len], fun k d hd => ?_, fun x y b hx hy => e.dist x y b (oi hx).2 (oi hy).2, fun k b d hm hs hd hu => fun ⟨x, h⟩ => e.bor k b d hm hs (gd hd).2 hu ⟨x, (oi h).2⟩, fun b z => ?_, e.kf⟩, na, fun b ⟨k, h⟩ => ⟨k, (oi h).2⟩, fun b ⟨k, hk, h⟩ => ⟨k, hk, (oi h).2⟩⟩
  · obtain ⟨v, hv, so⟩ := e.slot k d (gd hd).2
    exact ⟨v, hv, so.mono (fun b u z n => ⟨z, fun w => n (rr w)⟩) fun _ _ _ _ z => z⟩
  · rcases z with z | z
    · exact e.dom b z
    · rw [z]; exact e.domR (.inr ⟨j, o⟩)
/-- a held list is changed -/
theorem EnvOk.updO (e : EnvOk K R0 M σ H ρ) {i : Nat} (o : OwnI M ρ σ i a) {ds : List D} {vs : List V} (t : RepL K (Rr R0 M ρ σ) H ds vs) (hz : ds.length ≤ LIM) : EnvOk K R0 M σ (upd H a (.lst vs)) (ρ.set i (some (.lst ds))) ∧ SameLive ρ (ρ.set i (some (.lst ds))) := by
  have hi : i < ρ.length := by rw [e.len]; exact (List.getElem?_eq_some_iff.mp o.2.2).1
  have l : SameLive ρ (ρ.set i (some (.lst ds))) := by
    refine ⟨by simp, fun j => ?_⟩
    rw [gv_set hi]
    by_cases w : j = i
    · subst w
      rw [if_pos rfl]
      exact ⟨fun _ => o.2.1, fun _ => ⟨_, rfl⟩⟩
    · rw [if_neg w]
  have k : ∀ b u, H b = some u → ¬ Rr R0 M ρ σ b → upd H a (.lst vs) b = some u ∧ ¬ Rr R0 M ρ σ b := fun b u z n => ⟨by rw [upd_ne fun w => n (.inr ⟨i, by rw [w]; exact o⟩)]; exact z, n⟩
  refine ⟨⟨by simp [e.len], fun j d hd => ?_, fun x y b hx hy => e.dist x y b (l.own.mp hx) (l.own.mp hy), fun j b d hm hs hd hu => ?_, fun b z => ?_, fun b u z => ?_⟩, l⟩
  · rw [l.rr]
    by_cases w : j = i
    · subst w
      rw [gv_set hi, if_pos rfl] at hd
      cases hd
      refine ⟨.ref a, o.2.2, ?_⟩
      have own : OwnOk K (Rr R0 M ρ σ) (upd H a (.lst vs)) (.lst ds) (.ref a) := ⟨a, vs, rfl, upd_same, t.mono k, hz⟩
      have hm := o.1
      cases em : md M j with
      | shr => rw [em] at hm; cases hm
      | bor => rw [em] at hm; cases hm
      | own => exact own
      | io => exact own
    · rw [gv_set hi, if_neg w] at hd
      obtain ⟨v, hv, so⟩ := e.slot j d hd
      refine ⟨v, hv, so.mono k fun hne b u ev z => ?_⟩
      rw [upd_ne]
      · exact z
      · intro wb
        subst ev wb
        cases em : md M j with
        | shr => exact hne em
        | bor => exact e.bor' em hv hd ⟨i, o⟩
        | own => exact w (e.dist j i b ⟨by rw [em]; rfl, ⟨d, hd⟩, hv⟩ o)
        | io => exact w (e.dist j i b ⟨by rw [em]; rfl, ⟨d, hd⟩, hv⟩ o)
  · have w : j ≠ i := fun w => by have := o.1; rw [← w, hm] at this; cases this
    rw [gv_set hi, if_neg w] at hd
    rw [l.ownA]
    exact e.bor j b d hm hs hd hu
  · by_cases w : b = a
    · rw [w, upd_same]; exact fun z => by cases z
    · rw [upd_ne w]; exact e.dom b z
  · have w : b ≠ a := fun w => e.domR (.inr ⟨i, by rw [← w] at o; exact o⟩) (e.kf b u z)
    rw [upd_ne w]; exact e.kf b u z
theorem EnvOk.updMv (e : EnvOk K R0 M σ H ρ) (ow : OwnR R0 M ρ σ) {i : Nat} (o : OwnI M ρ σ i a) {ds : List D} {vs : List V} (t : RepL K (Rr R0 M ρ σ) H ds vs) (hz : ds.length ≤ LIM) : MvS K R0 M H σ ρ (upd H a (.lst vs)) σ (ρ.set i (some (.lst ds))) := by
  obtain ⟨e2, l⟩ := e.updO o t hz
  refine ⟨e2, fun b h => ow b ((ownO_live l).mp h), fun b u z n => ?_, fun b z => ?_, fun b h => .inl ((ownO_live l).mp h), fun j _ => ⟨rfl, l.2 j⟩⟩
  · rw [upd_ne fun w => n ⟨i, by rw [w]; exact o⟩]; exact z
  · by_cases w : b = a
    · rw [w, upd_same]; exact fun z => by cases z
    · rw [upd_ne w]; exact z
end

section
variable {X : Cx} {R0 : Addr → Prop} {M : List Mode} {xr : XR} {W : WX} {fr q qa qb : Bool} {fl fa fb : Fl} {σ : L2.St} {H H' H1 H2 : Hp} {ρ ρ1 ρ2 : Env} {g ga gb : Env → Out D} {e : Expr} {pos : Pos}
/-- name = a new list -/
theorem setO_t {K : PySem.W.Frag} {D : Ends} {i : Nat} (hx : XrOk xr) (hm : md M i = .own) (h : tS K R0 M xr W fr (fun ρ => (g ρ).toS fun d ρ => if isMut d then .next (ρ.set i (some d)) else .stuck) D σ H) : tO K R0 M xr W true .fresh g σ H fun v H1 => D.nx (σ.set i (some v)) H1 := by
  obtain ⟨ρ, env, ow, h⟩ := h
  exact exS (q := true) (fl := .fresh) hx env ow h fun d ρ1 v H1 m vo _ h2 => by
    obtain ⟨sm, er⟩ := m.quiet rfl
    subst er
    cases d with
    | lst ds =>
      obtain ⟨a, vs, rfl, h0, h1, t, z⟩ := vo
      have hne : ∀ b, Rr R0 M ρ1 σ b → b ≠ a := fun b z w => env.domR z (by rw [w]; exact h0)
      have e2 := env.addNew sm h0 (by rw [h1]; exact fun z => by cases z) m.env.kf
      obtain ⟨e3, o3, o4, o5⟩ := e2.putO ow (fun z => hne a (.inr z) rfl) (fun j d hj hd hs => by
        obtain ⟨v, hv, so⟩ := env.slot j d hd
        rw [hs] at hv; cases hv
        rcases so.ref with z | ⟨o, z⟩
        · exact z h0
        · rw [m.env.kf a o z] at h1; cases h1) (fun z => hne a (.inl z) rfl) hm h1 t z
      refine h2 _ H1 ⟨e3, o3, fun b u z _ => sm b u z, m.frm.there, fun b z => ?_, o5⟩
      rcases o4 b z with z | z
      · exact .inl z
      · rw [z]; exact .inr h0
    | dct _ _ => exact nomatch (show Rep _ _ _ _ _ from vo)
    | obj _ _ => exact nomatch (show Rep _ _ _ _ _ from vo)
    | _ => exact h2.elim
theorem s_asgO {i : Nat} {x : Str} {p : Pos} (hx : XrOk xr) (he : PE X e (tO X.K R0 M xr W true .fresh g)) (hm : md M i = .own) (hN : X.N.Nodup) (hi : X.N[i]? = some x) (hl : Loc X.env.scope x) (hf : X.fn x = true ∨ X.env.scope.names.lookup x = some .local)
    (hs : swapsWith e (some (.Name x p)) pos.line X.env = pure false) :
    PS X (.Assign [.Name x p] e pos) (tS X.K R0 M xr W fr fun ρ => (g ρ).toS fun d ρ => if isMut d then .next (ρ.set i (some d)) else .stuck) :=
  PS.mono (ps_set hN hi hl he hs hf) fun D σ H h => setO_t hx hm h
/-- name = another name's list, which lets it go -/
theorem s_asgM {i j : Nat} {x : Str} {p : Pos} (he : PE X e (tVar j)) (hj : md M j = .own) (hi2 : md M i = .own ∨ md M i = .shr) (hN : X.N.Nodup) (hi : X.N[i]? = some x) (hl : Loc X.env.scope x) (hf : X.fn x = true ∨ X.env.scope.names.lookup x = some .local)
    (hs : swapsWith e (some (.Name x p)) pos.line X.env = pure false) :
    PS X (.Assign [.Name x p] e pos) (tS X.K R0 M xr W fr fun ρ => match gv ρ j with
      | some d => .next ((ρ.set j none).set i (some d))
      | none => .stuck) :=
  PS.mono (ps_set hN hi hl he hs hf) fun D σ H ⟨ρ, env, ow, h⟩ => by
    dsimp only at h
    cases ed : gv ρ j with
    | none => rw [ed] at h; exact h.elim
    | some d =>
      rw [ed] at h
      obtain ⟨v, hv, so⟩ := env.slot j d ed
      refine ⟨v, hv, ?_⟩
      rw [hj] at so
      cases d with
      | lst ds =>
        obtain ⟨a, vs, rfl, h1, t, z⟩ := so
        have o : OwnI M ρ σ j a := ⟨by rw [hj]; rfl, ⟨_, ed⟩, hv⟩
        have hR : ¬ R0 a := ow a ⟨j, hj, o⟩
        obtain ⟨e2, na, oa, oo⟩ := env.drop o
        have rr : ∀ b, (Rr R0 M (ρ.set j none) σ b ∨ b = a) → Rr R0 M ρ σ b := fun b w => by
          rcases w with (w | w) | w
          · exact .inl w
          · exact .inr (oa b w)
          · rw [w]; exact .inr ⟨j, o⟩
        have ow2 : OwnR R0 M (ρ.set j none) σ := fun b w => ow b (oo b w)
        have live : ∀ k, md M k = .io ∨ md M k = .bor → ((∃ d, gv (ρ.set j none) k = some d) ↔ ∃ d, gv ρ k = some d) := fun k hk => by
          have w : k ≠ j := fun w => by rw [w, hj] at hk; rcases hk with hk | hk <;> cases hk
          rw [gv_none_set, if_neg fun z => w z.1]
        rcases hi2 with hm | hm
        · obtain ⟨e3, o3, o4, o5⟩ := e2.putO ow2 na (fun k d hk hd hs => by
            rw [gv_none_set] at hd
            split at hd
            · cases hd
            · exact env.bor' hk hs hd ⟨j, o⟩) hR hm h1 (t.mono fun b u z n => ⟨z, fun w => n (rr b w)⟩) z
          refine h _ H ⟨e3, o3, fun _ _ z _ => z, fun _ z => z, fun b z => ?_, fun k hk => ⟨(o5 k hk).1, (o5 k hk).2.trans (live k hk)⟩⟩
          rcases o4 b z with z | z
          · exact .inl (oo b z)
          · rw [z]; exact .inl ⟨j, hj, o⟩
        · have rp : Rep X.K (Rr R0 M (ρ.set j none) σ) H (.lst ds) (.ref a) := .lst (.inl ⟨.inl h1, fun w => w.elim hR na⟩) (t.mono fun b u z n => ⟨z, fun w => n (rr b (.inl w))⟩) z
          obtain ⟨e3, b3⟩ := e2.lessR.put hm rp
          have hsh : ∀ k ∈ [i], md M k = .shr := fun k hk => by
            have : k = i := by simpa using hk
            rw [this]; exact hm
          have m3 := b3.toS e3 hsh ow2
          refine h _ H ⟨e3, m3.ownR, fun _ _ z _ => z, fun _ z => z, fun b z => ?_, fun k hk => ⟨(m3.io k hk).1, (m3.io k hk).2.trans (live k hk)⟩⟩
          rcases m3.ownO b z with z | z
          · exact .inl (oo b z)
          · exact .inr z
      | _ => exact so.elim
/-- a name's own list is handed back -/
theorem s_retM {j : Nat} (he : PE X e (tVar j)) (hj : md M j = .own) : PS X (.Return (some e) pos) (tS X.K R0 M xr W fr fun ρ => match gv ρ j with
      | some d => .ret d ρ
      | none => .stuck) :=
  PS.mono (ps_ret he) fun D σ H ⟨ρ, env, ow, h⟩ => by
    dsimp only at h
    cases ed : gv ρ j with
    | none => rw [ed] at h; exact h.elim
    | some d =>
      rw [ed] at h
      obtain ⟨v, hv, so⟩ := env.slot j d ed
      refine ⟨v, hv, ?_⟩
      rw [hj] at so
      cases d with
      | lst ds =>
        obtain ⟨a, vs, rfl, h1, t, z⟩ := so
        have o : OwnI M ρ σ j a := ⟨by rw [hj]; rfl, ⟨_, ed⟩, hv⟩
        have hR : ¬ R0 a := ow a ⟨j, hj, o⟩
        refine h _ σ H (.refl env ow) ?_
        unfold RetOk
        cases fr with
        | false => exact .lst (.inl ⟨.inl h1, hR⟩) (t.mono fun b u z n => ⟨z, fun w => n (.inl w)⟩) z
        | true =>
          rw [if_pos rfl]
          exact ⟨a, vs, rfl, .inl ⟨j, hj, o⟩, hR, h1, t.mono fun b u z n => ⟨z, fun w => n (w.elim .inl fun w => by rw [w]; exact .inr ⟨j, o⟩)⟩, z⟩
      | _ => exact so.elim
/-- name.append(e) -/
theorem s_append {i : Nat} {n : Expr} {apos cpos : Pos} (hx : XrOk xr) (hn : PE X n (tVar i)) (hi : (md M i).isOwn = true) (he : PE X e (tO X.K R0 M xr W q fl g)) (hfl : fl ≠ .bor)
    (hbase : attributeBase n "append" X.env (eval n X.env) = eval n X.env)
    (hfew : ((backTo cpos (starEach [e] X.env)).all (fun x => !x.1) && (backToKw cpos (keywordEach [] X.env)).all (fun x => x.1.isSome) && decide (([e] : List Expr).length + ([] : List Keyword).length + (if ([] : List Keyword).isEmpty then 0 else 1) < 30)) = true)
    (hline : (apos.endLine == cpos.line) = true) (hst : starEach [e] X.env = (false, eval e X.env) :: starEach [] X.env) (hplain : (backTo cpos (starEach [] X.env)).any (·.1) = false)
    (hs : swapsWith (.Call (.Attribute n "append" apos) [e] [] cpos) none pos.line X.env = pure false) :
    PS X (.Expr (.Call (.Attribute n "append" apos) [e] [] cpos) pos) (tS X.K R0 M xr W fr fun ρ => match gv ρ i with
      | some (.lst _) => (g ρ).toS fun y ρ => match gv ρ i with
        | some (.lst xs) => if xs.length < LIM then .next (ρ.set i (some (.lst (xs ++ [y])))) else .stuck
        | _ => .stuck
      | _ => .stuck) :=
  PS.mono (ps_expr (pe_bm PySem.F.plainAttrs_list PySem.F.slot_list_append PySem.F.type_list_append mt_append hn (pa_cons he pa_nil hst) hbase hfew hline hst hplain) hs) fun D σ H ⟨ρ, env, ow, h⟩ => by
    dsimp only at h
    cases e0 : gv ρ i with
    | none => rw [e0] at h; exact h.elim
    | some d0 =>
      obtain ⟨v0, hv0, so0⟩ := env.slot i d0 e0
      have so0 := so0.own hi
      cases d0 with
      | lst ds0 =>
        rw [e0] at h
        dsimp only at h
        obtain ⟨a, vs0, rfl, h0, _⟩ := so0
        refine ⟨.ref a, hv0, .inl ⟨rfl, _, .of h0⟩, ?_⟩
        refine exS (q := q) (fl := fl) hx env ow h fun d ρ1 v H1 m vo h1 _ => ?_
        have ow1 : OwnR R0 M ρ1 σ := fun a z => ow a ((ownO_live m.live).mp z)
        cases ed : gv ρ1 i with
        | none => rw [ed] at h1; exact h1.elim
        | some x =>
          obtain ⟨v1, hv1, so1⟩ := m.env.slot i x ed
          rw [hv0] at hv1; cases hv1
          have so1 := so1.own hi
          cases x with
          | lst ds =>
            rw [ed] at h1
            dsimp only at h1
            obtain ⟨a', vs, ea, h2, t, z⟩ := so1
            cases ea
            have o : OwnI M ρ1 σ i a := ⟨hi, ⟨_, ed⟩, hv0⟩
            by_cases hl : ds.length < LIM
            · rw [if_pos hl] at h1
              have r := vo.rep hfl fun a z => env.domR z
              rw [← m.rr] at r
              refine ⟨a, vs, v, rfl, rfl, h2, ?_, h1 σ _ (m.env.updMv ow1 o (t.append (.cons r .nil)) ?_)⟩
              · rw [← t.length, sizeLine_eq]; have : ds.length < 16777216 := hl; omega
              · rw [List.length_append]; exact hl
            · rw [if_neg hl] at h1; exact h1.elim
          | _ => exact so1.elim
      | _ => exact so0.elim
theorem ixN_ixI {n : Nat} {i : Int} : ixN n i = ixI n i := rfl
/-- name[k] = e -/
theorem s_setI {i : Nat} {n ke : Expr} {tpos : Pos} {gk : Env → Out D} {fk : Fl} {qk : Bool} (hx : XrOk xr) (hn : PE X n (tVar i)) (hi : (md M i).isOwn = true) (he : PE X e (tO X.K R0 M xr W q fl g)) (hfl : fl ≠ .bor) (hk : PE X ke (tO X.K R0 M xr W qk fk gk))
    (ha : ∀ v, assign (.Subscript n ke tpos) X.env v = (do
      let ov ← holding [v] (eval n X.env)
      let iv ← holding [v, ov] (eval ke X.env)
      standAt tpos
      holding [v, ov, iv] (setItem ov iv v)
      release [v, ov, iv] []))
    (hs : swapsWithSole [.Subscript n ke tpos] e pos.line X.env = pure false) (hw : swappedStores [.Subscript n ke tpos] e X.env = pure none) (h1 : (assignEach [.Subscript n ke tpos] X.env).map (·.2) = [assign (.Subscript n ke tpos) X.env]) :
    PS X (.Assign [.Subscript n ke tpos] e pos) (tS X.K R0 M xr W fr fun ρ => (g ρ).toS fun y ρ => match gv ρ i with
      | some (.lst _) => (gk ρ).toS fun k ρ => match gv ρ i with
        | none => .stuck
        | some a => match opSet a k y with
          | some b => .next (ρ.set i (some b))
          | none => .stuck
      | _ => .stuck) :=
  PS.mono (ps_asg he (pg_sub hn hk set_list ha) hs hw h1) fun D σ H ⟨ρ, env, ow, h⟩ => exS (q := q) (fl := fl) hx env ow h fun y ρ1 v H1 m vo h1 _ => by
    have ow1 : OwnR R0 M ρ1 σ := fun a z => ow a ((ownO_live m.live).mp z)
    have r := vo.rep hfl fun a z => env.domR z
    cases e0 : gv ρ1 i with
    | none => rw [e0] at h1; exact h1.elim
    | some d0 =>
      obtain ⟨v0, hv0, so0⟩ := m.env.slot i d0 e0
      have so0 := so0.own hi
      cases d0 with
      | lst ds0 =>
        rw [e0] at h1
        dsimp only at h1
        obtain ⟨a, vs0, rfl, h0, _⟩ := so0
        refine ⟨.ref a, hv0, ?_⟩
        refine exS (q := qk) (fl := fk) hx m.env ow1 h1 fun k ρ2 kv H2 m2 ko h2 _ => ?_
        have ow2 : OwnR R0 M ρ2 σ := fun a z => ow1 a ((ownO_live m2.live).mp z)
        have r2 : Rep X.K (Rr R0 M ρ2 σ) H2 y v := by
          rw [← m.rr] at r
          rw [m2.rr]
          exact r.frm m2.frm
        cases ed : gv ρ2 i with
        | none => rw [ed] at h2; exact h2.elim
        | some x =>
          obtain ⟨v1, hv1, so1⟩ := m2.env.slot i x ed
          rw [hv0] at hv1; cases hv1
          have so1 := so1.own hi
          cases x with
          | lst ds =>
            rw [ed] at h2
            dsimp only at h2
            obtain ⟨a', vs, ea, h3, t, z⟩ := so1
            cases ea
            have o : OwnI M ρ2 σ i a := ⟨hi, ⟨_, ed⟩, hv0⟩
            cases k with
            | int kk =>
              have rk : ∃ kk', kv = .int kk' ∧ kk' = kk := by
                have b := ko.toBor
                cases (show Rep X.K _ H2 (.int kk) kv from b)
                exact ⟨_, rfl, rfl⟩
              obtain ⟨kk', rfl, ek⟩ := rk
              unfold opSet at h2
              dsimp only at h2
              rw [← ek] at h2
              cases ej : ixI ds.length kk' with
              | none => rw [ej] at h2; exact h2.elim
              | some j =>
                rw [ej] at h2
                dsimp only [Option.map] at h2
                refine ⟨a, vs, _, j, rfl, rfl, h3, by rw [← t.length]; exact ej, h2 σ _ (m2.env.updMv ow2 o (t.set j r2) (by rw [List.length_set]; exact z))⟩
            | _ => exact h2.elim
          | _ => exact so1.elim
      | _ => exact so0.elim
end
end Ev
end -- EvS2

section -- EvS3
set_option Elab.async false
set_option linter.all false
set_option maxRecDepth 100000
set_option maxHeartbeats 1000000
/-! EvS3: loops. -/
namespace Ev
open PySem PySem.Spec PyProof.Rows L2
section
variable {X : Cx} {R0 : Addr → Prop} {M M' : List Mode} {xr : XR} {W : WX} {fr q qa qb qi : Bool} {fl fa fb : Fl} {σ : L2.St} {H H' H1 H2 : Hp} {ρ ρ1 ρ2 : Env} {g ga gb : Env → Out D} {e : Expr} {pos : Pos}
theorem s_while {c : Expr} {body : List Stmt} {gc : Env → Out Bool} {gs : Env → SOut} {n : Nat} (hx : XrOk xr) (hp : PassesOwn (model X.prog X.w) X.A X.env X.xe) (hc : PT X c (tT X.K R0 M xr W q gc)) (hb : PSs X body (tS X.K R0 M xr W fr gs)) :
    PS X (.While c body [] pos) (tS X.K R0 M xr W fr fun ρ => whileLoop gc gs n ρ) :=
  PS.mono (ps_while hp hc hb) fun D σ H ⟨ρ, env, ow, h⟩ => by
    refine ⟨fun m σ H => ∃ ρ, EnvOk X.K R0 M σ H ρ ∧ OwnR R0 M ρ σ ∧ RestS X.K R0 M xr W fr σ H ρ D (whileLoop gc gs m ρ), ⟨n, ρ, env, ow, h⟩, ?_⟩
    rintro m σ1 H1 ⟨ρ1, env1, ow1, h1⟩
    cases m with
    | zero => exact h1.elim
    | succ m =>
      rw [whileLoop] at h1
      refine exB (q := q) hx env1 ow1 h1 fun b ρ2 H2 mv h2 => ?_
      have ow2 : OwnR R0 M ρ2 σ1 := fun a z => ow1 a ((ownO_live mv.live).mp z)
      cases b with
      | false => rw [if_neg Bool.false_ne_true] at h2 ⊢; exact h2 σ1 H2 (.refl mv.env ow2)
      | true =>
        rw [if_pos rfl] at h2 ⊢
        refine ⟨fun σ' H' => ∃ ρ, EnvOk X.K R0 M σ' H' ρ ∧ OwnR R0 M ρ σ' ∧ RestS X.K R0 M xr W fr σ' H' ρ D (whileLoop gc gs m ρ), fun σ' H' w => ⟨m, Nat.lt_succ_self m, w⟩, ρ2, mv.env, ow2, ?_⟩
        cases eb : gs ρ2 with
        | next ρ3 => rw [eb] at h2; exact fun σ3 H3 m3 => ⟨ρ3, m3.env, m3.ownR, RestS.pre m3 h2⟩
        | cont ρ3 => rw [eb] at h2; exact fun σ3 H3 m3 => ⟨ρ3, m3.env, m3.ownR, RestS.pre m3 h2⟩
        | brk ρ3 => rw [eb] at h2; exact h2
        | ret d ρ3 => rw [eb] at h2; exact h2
        | exc c p ρ3 => rw [eb] at h2; exact h2
        | stuck => rw [eb] at h2; exact h2
end
/-! ### a list is walked -/
section
variable {K : PySem.W.Frag} {R0 : Addr → Prop} {M : List Mode} {xr : XR} {W : WX} {fr : Bool} {σ σ' : L2.St} {H H' : Hp} {ρ ρ' : Env} {d : D} {v : V} {i : Nat}
/-- what is shut out while the i-th name's list is walked -/
def RW (R0 : Addr → Prop) (M : List Mode) (ρ : Env) (σ : L2.St) (i : Nat) : Addr → Prop := fun b => R0 b ∨ OwnI M ρ σ i b
theorem own_of (hm : (md M i).isOwn = true) {j : Nat} {a : Addr} : OwnI (borM M i) ρ σ j a ↔ j ≠ i ∧ OwnI M ρ σ j a := by
  refine ⟨fun h => ⟨h.borM.2, h.borM.1⟩, fun ⟨h1, h2, h3⟩ => ⟨?_, h3⟩⟩
  rw [md_borM, if_neg fun z => h1 z.1]
  exact h2
theorem borM_not (hm : ¬ (md M i).isOwn = true) : borM M i = M := by unfold borM; rw [if_neg hm]
theorem EnvOk.weakS (e : EnvOk K R0 M σ H ρ) (ow : OwnR R0 M ρ σ) (i : Nat) : EnvOk K (RW R0 M ρ σ i) (borM M i) σ H ρ ∧ OwnR (RW R0 M ρ σ i) (borM M i) ρ σ ∧ (∀ b, Rr (RW R0 M ρ σ i) (borM M i) ρ σ b ↔ Rr R0 M ρ σ b) := by
  have hMM : MW M (borM M i) := .inr ⟨i, rfl⟩
  have rr : ∀ b, Rr (RW R0 M ρ σ i) (borM M i) ρ σ b ↔ Rr R0 M ρ σ b := fun b => by
    refine ⟨fun z => ?_, fun z => ?_⟩
    · rcases z with (z | z) | z
      · exact .inl z
      · exact .inr ⟨i, z⟩
      · exact .inr (hMM.ownA z)
    · rcases z with z | ⟨j, z⟩
      · exact .inl (.inl z)
      · by_cases w : j = i
        · subst w; exact .inl (.inr z)
        · refine .inr ⟨j, ?_, z.2⟩
          rw [md_borM, if_neg fun q => w q.1]; exact z.1
  have hrr : Rr (RW R0 M ρ σ i) (borM M i) ρ σ = Rr R0 M ρ σ := by funext b; exact propext (rr b)
  have ew := e.weakM hMM
  refine ⟨⟨e.len, fun j d hd => ?_, ew.dist, ew.bor, fun b z => z.elim (e.dom b) fun z => e.domR (.inr ⟨i, z⟩), e.kf⟩, fun b ⟨j, hj, o⟩ z => ?_, rr⟩
  · obtain ⟨v, hv, so⟩ := ew.slot j d hd
    rw [hMM.rr] at so
    rw [hrr]
    exact ⟨v, hv, so⟩
  · obtain ⟨o1, o2⟩ := o.borM
    rcases z with z | z
    · refine ow b ⟨j, ?_, o1⟩ z
      rw [md_borM, if_neg fun q => o2 q.1] at hj; exact hj
    · exact o2 (e.dist j i b o1 z)
theorem EnvOk.strongS (e0 : EnvOk K R0 M σ H ρ) (ow0 : OwnR R0 M ρ σ) (m : MvS K (RW R0 M ρ σ i) (borM M i) H σ ρ H' σ' ρ') : MvS K R0 M H σ ρ H' σ' ρ' := by
  have hMM : MW M (borM M i) := .inr ⟨i, rfl⟩
  by_cases hm : (md M i).isOwn = true
  · have hbi : md (borM M i) i = .bor := by rw [md_borM, if_pos ⟨rfl, hm⟩]
    have hmd : ∀ {j}, j ≠ i → md (borM M i) j = md M j := fun {j} w => by rw [md_borM, if_neg fun q => w q.1]
    obtain ⟨s1, s2⟩ := m.io i (.inr hbi)
    have oi : ∀ {a}, OwnI M ρ' σ' i a ↔ OwnI M ρ σ i a := fun {a} => by unfold OwnI; rw [s1, s2]
    have oj : ∀ {j a}, OwnI M ρ' σ' j a → (j ≠ i ∧ OwnI (borM M i) ρ' σ' j a) ∨ (j = i ∧ OwnI M ρ σ i a) := fun {j a} h => by
      by_cases w : j = i
      · subst w; exact .inr ⟨rfl, oi.mp h⟩
      · exact .inl ⟨w, (own_of hm).mpr ⟨w, h⟩⟩
    have rr : ∀ {b}, Rr R0 M ρ' σ' b → Rr (RW R0 M ρ σ i) (borM M i) ρ' σ' b := fun {b} z => by
      rcases z with z | ⟨j, z⟩
      · exact .inl (.inl z)
      · rcases oj z with ⟨_, z⟩ | ⟨_, z⟩
        · exact .inr ⟨j, z⟩
        · exact .inl (.inr z)
    have mono : ∀ a o, H' a = some o → ¬ Rr (RW R0 M ρ σ i) (borM M i) ρ' σ' a → H' a = some o ∧ ¬ Rr R0 M ρ' σ' a := fun a o z n => ⟨z, fun w => n (rr w)⟩
    -- the walked list's place is no other name's
    have no : ∀ {j a}, j ≠ i → OwnI (borM M i) ρ' σ' j a → ¬ OwnI M ρ σ i a := fun {j a} w h h2 => by
      rcases m.ownA ⟨j, h⟩ with ⟨k, z⟩ | z
      · obtain ⟨z1, z2⟩ := z.borM
        exact z2 (e0.dist k i a z1 h2)
      · exact e0.domR (.inr ⟨i, h2⟩) z
    have nk : ∀ {a}, OwnI M ρ σ i a → ¬ OwnA (borM M i) ρ σ a := fun {a} h ⟨k, z⟩ => z.borM.2 (e0.dist k i a z.borM.1 h)
    refine ⟨⟨m.env.len, fun j d hd => ?_, fun x y a h1 h2 => ?_, fun k a d hk hs hd hu => ?_, fun a z => m.env.dom a (.inl z), m.env.kf⟩, fun a ⟨j, hj, h⟩ => ?_, fun a o z n => m.keep a o z fun w => n (hMM.ownA w), m.there, fun a ⟨j, hj, h⟩ => ?_, fun j hj => ?_⟩
    · obtain ⟨v, hv, so⟩ := m.env.slot j d hd
      refine ⟨v, hv, ?_⟩
      by_cases w : j = i
      · subst w
        rw [hbi] at so
        obtain ⟨d0, hd0⟩ := s2.mp ⟨d, hd⟩
        obtain ⟨v0, hv0, so0⟩ := e0.slot j d0 hd0
        rw [← s1, hv] at hv0; cases hv0
        have so0 := so0.own hm
        cases d0 with
        | lst ds0 =>
          obtain ⟨a, vs0, rfl, h1, t0, _⟩ := so0
          have o : OwnI M ρ σ j a := ⟨hm, ⟨_, hd0⟩, by rw [← s1]; exact hv⟩
          have h2 : H' a = some (.lst vs0) := m.keep a _ h1 (nk o)
          have so : BorOk K (Rr (RW R0 M ρ σ j) (borM M j) ρ' σ') H' d (.ref a) := so
          have own : OwnOk K (Rr R0 M ρ' σ') H' d (.ref a) := by
            cases d with
            | lst ds =>
              obtain ⟨b, vs, eb, h3, t, z⟩ := so
              cases eb
              have : vs = vs0 := by
                rcases h3 with (h3 | ⟨o, h3⟩) | ⟨o, _, _, h3, _⟩
                · rw [h2] at h3; cases h3; rfl
                · rw [h2] at h3; cases h3
                · rw [m.env.kf a o h3] at h2; cases h2
              subst this
              exact ⟨a, vs, rfl, h2, t.mono mono, z⟩
            | tup xs =>
              cases (show Rep K (Rr (RW R0 M ρ σ j) (borM M j) ρ' σ') H' _ (.ref a) from so) with
              | tup h _ _ =>
                rcases h with ⟨_, n⟩ | ⟨o2, _, _, h, _⟩
                · exact absurd (.inl (.inr o)) n
                · rw [m.env.kf a o2 h] at h2; cases h2
            | _ => exact nomatch (show Rep K _ H' _ (.ref a) from so)
          cases em2 : md M j with
          | shr => rw [em2] at hm; cases hm
          | bor => rw [em2] at hm; cases hm
          | own => exact own
          | io => exact own
        | _ => exact so0.elim
      · rw [hmd w] at so
        exact so.mono mono fun _ _ _ _ z => z
    · rcases oj h1 with ⟨x1, x2⟩ | ⟨x1, x2⟩
      · rcases oj h2 with ⟨y1, y2⟩ | ⟨y1, y2⟩
        · exact m.env.dist x y a x2 y2
        · exact absurd y2 (no x1 x2)
      · rcases oj h2 with ⟨y1, y2⟩ | ⟨y1, y2⟩
        · exact absurd x2 (no y1 y2)
        · rw [x1, y1]
    · have w : k ≠ i := fun w => by rw [w] at hk; rw [hk] at hm; cases hm
      have hk' : md (borM M i) k = .bor := by rw [hmd w]; exact hk
      obtain ⟨k1, k2⟩ := m.io k (.inr hk')
      rintro ⟨j, h⟩
      rcases oj h with ⟨_, h⟩ | ⟨_, h⟩
      · exact m.env.bor k a d hk' hs hd hu ⟨j, h⟩
      · obtain ⟨d0, hd0⟩ := k2.mp ⟨d, hd⟩
        exact e0.bor' hk (by rw [← k1]; exact hs) hd0 ⟨i, h⟩
    · rcases oj h with ⟨w, h⟩ | ⟨w, h⟩
      · exact fun z => m.ownR a ⟨j, by rw [hmd w]; exact hj, h⟩ (.inl z)
      · exact ow0 a ⟨i, by rw [← w]; exact hj, h⟩
    · rcases oj h with ⟨w, h⟩ | ⟨w, h⟩
      · rcases m.ownO a ⟨j, by rw [hmd w]; exact hj, h⟩ with ⟨k, hk, z⟩ | z
        · exact .inl ⟨k, by rw [hmd z.borM.2] at hk; exact hk, z.borM.1⟩
        · exact .inr z
      · exact .inl ⟨i, by rw [← w]; exact hj, h⟩
    · by_cases w : j = i
      · rw [w]; exact ⟨s1, s2⟩
      · exact m.io j (by rw [hmd w]; exact hj)
  · have hb := borM_not hm
    have hw : RW R0 M ρ σ i = R0 := by
      funext b
      exact propext ⟨fun z => z.elim id fun z => absurd z.1 hm, .inl⟩
    rw [hb, hw] at m
    exact m
theorem RetOk.strong (h : RetOk K (RW R0 M ρ σ i) (borM M i) ρ σ fr H H' d v) : RetOk K R0 M ρ σ fr H H' d v := by
  unfold RetOk at h ⊢
  have w : ∀ b o, H' b = some o → ¬ RW R0 M ρ σ i b → H' b = some o ∧ ¬ R0 b := fun b o z n => ⟨z, fun q => n (.inl q)⟩
  cases fr with
  | false => exact Rep.mono w h
  | true =>
    rw [if_pos rfl] at h ⊢
    cases d with
    | lst ds =>
      obtain ⟨a, vs, e, h0, h1, h2, t, z⟩ := h
      refine ⟨a, vs, e, ?_, fun q => h1 (.inl q), h2, t.mono fun b o z n => ⟨z, fun q => n (q.elim (fun q => .inl (.inl q)) .inr)⟩, z⟩
      rcases h0 with ⟨j, hj, o⟩ | h0
      · obtain ⟨o1, o2⟩ := o.borM
        exact .inl ⟨j, by rw [md_borM, if_neg fun q => o2 q.1] at hj; exact hj, o1⟩
      · exact .inr h0
    | _ => exact Rep.mono w h
end
end Ev
end -- EvS3

section -- EvS4
set_option Elab.async false
set_option linter.all false
set_option maxRecDepth 100000
set_option maxHeartbeats 1000000
/-! EvS4: for; several names at once; a comprehension that goes into a name. -/
namespace Ev
open PySem PySem.Spec PyProof.Rows L2
section
variable {X : Cx} {R0 : Addr → Prop} {M M' : List Mode} {xr : XR} {W : WX} {fr q qa qb qi : Bool} {fl fa fb : Fl} {σ : L2.St} {H H' H1 H2 : Hp} {ρ ρ1 ρ2 : Env} {g ga gb : Env → Out D} {e : Expr} {pos : Pos}
def forStep (t : T) (gs : Env → SOut) : D → Env → SOut := fun x ρ => match bindT t x ρ with
  | some ρ => gs ρ
  | none => .stuck
theorem s_for {tg iter : Expr} {body : List Stmt} {t : T} {gi : Env → Out (List D)} {gs : Env → SOut} {i : Nat} (hx : XrOk xr) (hp : PassesOwn (model X.prog X.w) X.A X.env X.xe) (hc : X.calm = true) (hi : PI X tg iter (tI X.K R0 M (borM M i) xr W qi gi))
    (hg : ∀ R2, PG X tg (gT X.K R2 (borM M i) t)) (htm : ∀ j ∈ varsT t, md (borM M i) j = .shr) (hb : ∀ R2, PSs X body (tS X.K R2 (borM M i) xr W fr gs)) (hs : ∀ x, foldedSetIterable iter X.env x = pure x) :
    PS X (.For tg iter body [] pos) (tS X.K R0 M xr W fr fun ρ => (gi ρ).toS fun xs ρ => forLoop (forStep t gs) xs ρ) := by
  have hg' : PG X tg (fun x σ H Q => ∃ R2, gT X.K R2 (borM M i) t x σ H Q) := ⟨fun pins s σ H v u Q I r ⟨R2, h⟩ => (hg R2).run pins s σ H v u Q I r h⟩
  have hb' : PSs X body (fun D σ H => ∃ R2, tS X.K R2 (borM M i) xr W fr gs D σ H) := ⟨fun pins s σ H D I ⟨R2, h⟩ => (hb R2).run pins s σ H D I h⟩
  refine PS.mono (ps_for hp hc hi hg' hb' hs) fun D σ H ⟨ρ, env, ow, h⟩ => ⟨ρ, env, ?_⟩
  dsimp only at h
  cases e : gi ρ with
  | stuck => rw [e] at h; exact h.elim
  | exc c p ρ1 =>
    rw [e] at h
    exact fun cv dx H1 m x => h cv dx σ H1 (m.toS ow) (hx _ _ _ _ _ _ _ (fun a z => .inl z) x)
  | ok xs ρ1 =>
    rw [e] at h
    dsimp only [Out.toS] at h
    intro J H1 m ⟨hz, G, src⟩
    have ow1 : OwnR R0 M ρ1 σ := fun a z => ow a ((ownO_live m.live).mp z)
    have h1 := h.pre (m.toS ow)
    obtain ⟨e1, o1, rr⟩ := m.env.weakS ow1 i
    rw [← m.rr] at src
    refine for_it (g := fun x σ H Q => ∃ R2, gT X.K R2 (borM M i) t x σ H Q) (tb := fun D σ H => ∃ R2, tS X.K R2 (borM M i) xr W fr gs D σ H) (D := D) src.walk
      (fun k σ' H' => G H' ∧ ∃ ρ', MvS X.K (RW R0 M ρ1 σ i) (borM M i) H1 σ ρ1 H' σ' ρ' ∧ RestS X.K R0 M xr W fr σ H1 ρ1 D (forLoop (forStep t gs) (xs.drop k) ρ'))
      ⟨src.stab H1 fun _ _ z _ => z, ρ1, .refl e1 o1, by rw [List.drop_zero]; exact h1⟩ (fun k σ' H' _ p => p.1) ?_ ?_
    · rintro k x σ' H' H'' hk ⟨gx, ρ', mv, hr⟩ ⟨rfl, d, hd, rx⟩
      have hdrop : xs.drop k = d :: xs.drop (k + 1) := by
        rw [List.drop_eq_getElem_cons hk]
        rw [List.getElem?_eq_getElem hk] at hd
        rw [Option.some.inj hd]
      rw [hdrop, forLoop] at hr
      unfold forStep at hr
      have rx' : Rep X.K (Rr (RW R0 M ρ1 σ i) (borM M i) ρ' σ') H'' d x := rx.mono fun b o z n => ⟨mv.keep b o z fun w => n ((rr b).mp (.inr w)), fun w => by
        rcases w with w | w
        · exact n ((rr b).mp (.inl w))
        · rcases mv.ownA w with w | w
          · exact n ((rr b).mp (.inr w))
          · rw [w] at z; cases z⟩
      cases eb : bindT t d ρ' with
      | none => rw [eb] at hr; exact hr.elim
      | some ρ2 =>
        rw [eb] at hr
        dsimp only at hr
        refine ⟨_, ρ', d, ρ2, mv.env, rx', eb, fun σ2 e2 b2 => ?_⟩
        have mv2 := mv.trans (b2.toS e2 htm mv.ownR)
        refine ⟨_, ρ2, e2, mv2.ownR, ?_⟩
        have again : ∀ {ρ3}, RestS X.K R0 M xr W fr σ H1 ρ1 D (forLoop (forStep t gs) (xs.drop (k + 1)) ρ3) → ∀ σ3 H3, MvS X.K (RW R0 M ρ1 σ i) (borM M i) H'' σ2 ρ2 H3 σ3 ρ3 →
            G H3 ∧ ∃ ρ', MvS X.K (RW R0 M ρ1 σ i) (borM M i) H1 σ ρ1 H3 σ3 ρ' ∧ RestS X.K R0 M xr W fr σ H1 ρ1 D (forLoop (forStep t gs) (xs.drop (k + 1)) ρ') := fun {ρ3} h3 σ3 H3 m3 =>
          ⟨src.stab H3 (mv2.trans m3).keep, ρ3, mv2.trans m3, h3⟩
        cases es : gs ρ2 with
        | next ρ3 => rw [es] at hr; exact again hr
        | cont ρ3 => rw [es] at hr; exact again hr
        | brk ρ3 => rw [es] at hr; exact fun σ3 H3 m3 => hr σ3 H3 (m.env.strongS ow1 (mv2.trans m3))
        | ret d ρ3 => rw [es] at hr; exact fun v σ3 H3 m3 r => hr v σ3 H3 (m.env.strongS ow1 (mv2.trans m3)) (r.pre mv2).strong
        | exc c p ρ3 => rw [es] at hr; exact fun cv dx σ3 H3 m3 x => hr cv dx σ3 H3 (m.env.strongS ow1 (mv2.trans m3)) (hx _ _ _ _ _ _ _ (fun a z => .inl z) x)
        | stuck => rw [es] at hr; exact hr.elim
    · rintro σ' H' ⟨_, ρ', mv, hr⟩
      rw [List.drop_length] at hr
      exact hr σ' H' (m.env.strongS ow1 mv)
/-- name op= e: ints -/
theorem s_augI {i : Nat} {x : Str} {op : Operator} {k : BinK} {p : Pos} {f : Int → Int → Int} (hx : XrOk xr) (hop : PIp X op (ipI f)) (hk : ∀ a b, opBin k (.int a) (.int b) = some (.int (f a b))) (he : PE X e (tO X.K R0 M xr W q fl g)) (hm : md M i = .shr) (hN : X.N.Nodup) (hi : X.N[i]? = some x) (hl : Loc X.env.scope x)
    (hf : X.fn x = true ∨ X.env.scope.names.lookup x = some .local) :
    PS X (.AugAssign (.Name x p) op e pos) (tS X.K R0 M xr W fr fun ρ => match gv ρ i with
      | some (.int a) => (g ρ).toS fun y ρ => match y with
        | .int b => match opBin k (.int a) (.int b) with
          | some z => .next (ρ.set i (some z))
          | none => .stuck
        | _ => .stuck
      | _ => .stuck) :=
  PS.mono (ps_aug hN hi hl he hop hf) fun D σ H ⟨ρ, env, ow, h⟩ => by
    dsimp only at h
    cases e0 : gv ρ i with
    | none => rw [e0] at h; exact h.elim
    | some d0 =>
      obtain ⟨v0, hv0, so0⟩ := env.slot i d0 e0
      rw [hm] at so0
      cases d0 with
      | int a =>
        rw [e0] at h
        dsimp only at h
        cases (show Rep X.K _ H (.int a) v0 from so0)
        refine ⟨_, hv0, ?_⟩
        refine exS (q := q) (fl := fl) hx env ow h fun d ρ1 v H1 m vo h1 _ => ?_
        have ow1 : OwnR R0 M ρ1 σ := fun a z => ow a ((ownO_live m.live).mp z)
        cases d with
        | int b =>
          dsimp only at h1
          rw [hk] at h1
          dsimp only at h1
          cases (show Rep X.K _ H1 (.int b) v from vo.toBor)
          refine ⟨a, b, rfl, rfl, ?_⟩
          obtain ⟨e2, b2⟩ := m.env.put (i := i) (d := .int (f a b)) (v := .int (f a b)) hm (.int _)
          exact h1 _ H1 (b2.toS e2 (fun j hj => by have : j = i := by simpa using hj
                                                   rw [this]; exact hm) ow1)
        | _ => exact h1.elim
      | _ => rw [e0] at h; exact h.elim
theorem PS.monoK {s : Stmt} {t t' : TS} (h : PS X s t) (hm : ∀ D σ H, t' D σ H → t { D with nx := fun σ H => KF X.K H → D.nx σ H } σ H) : PS X s t' := by
  refine ⟨fun pins s σ H D I q => thn (h.run pins s σ H _ I (hm D σ H q)) fun f s' z => ?_⟩
  cases f with
  | next => obtain ⟨σ', H', I', z⟩ := z; exact ⟨σ', H', I', z (Inv.kf I')⟩
  | brk => exact z
  | cont => exact z
  | ret v => exact z
end
end Ev
end -- EvS4

section -- EvS5
set_option Elab.async false
set_option linter.all false
set_option maxRecDepth 100000
set_option maxHeartbeats 1000000
/-! EvS5: a, b = x, y; name = [..]. -/
namespace Ev
open PySem PySem.Spec PyProof.Rows L2
section
variable {K : PySem.W.Frag} {P N R0 : Addr → Prop} {M : List Mode} {σ σ' : L2.St} {H H' H1 : Hp} {ρ ρ' : Env} {d : D} {v : V} {i : Nat}
theorem EnvOk.congr {P' : Addr → Prop} (e : EnvOk K P M σ H ρ) (h : ∀ b, P b ↔ P' b) : EnvOk K P' M σ H ρ := by
  have : P = P' := by funext b; exact propext (h b)
  rw [← this]; exact e
/-- a value that waits to be put into the i-th name; N: its own new place -/
def PutR (K : PySem.W.Frag) (P : Addr → Prop) (M : List Mode) (σ : L2.St) (ρ : Env) (H : Hp) (i : Nat) (d : D) (v : V) (N : Addr → Prop) : Prop :=
  (md M i = .shr ∧ (∀ b, ¬ N b) ∧ Rep K (Rr P M ρ σ) H d v) ∨
  (md M i = .own ∧ ∃ a ds vs, v = .ref a ∧ d = .lst ds ∧ (∀ b, N b ↔ b = a) ∧ H a = some (.lst vs) ∧ RepL K (Rr P M ρ σ) H ds vs ∧ ds.length ≤ LIM ∧ ¬ OwnA M ρ σ a ∧ ∀ j d, md M j = .bor → gv ρ j = some d → σ[j]? ≠ some (some (.ref a)))
theorem put_any (e : EnvOk K (fun b => P b ∨ N b) M σ H ρ) (ow : OwnR P M ρ σ) (hP : ∀ b, N b → ¬ P b) (r : PutR K (fun b => P b ∨ N b) M σ ρ H i d v N) :
    EnvOk K P M (σ.set i (some v)) H (ρ.set i (some d)) ∧ OwnR P M (ρ.set i (some d)) (σ.set i (some v)) ∧ (∀ b, OwnO M (ρ.set i (some d)) (σ.set i (some v)) b → OwnO M ρ σ b ∨ N b) ∧
      (∀ j, md M j = .io ∨ md M j = .bor → (σ.set i (some v))[j]? = σ[j]? ∧ ((∃ x, gv (ρ.set i (some d)) j = some x) ↔ ∃ x, gv ρ j = some x)) ∧ (∀ b, OwnA M (ρ.set i (some d)) (σ.set i (some v)) b → OwnA M ρ σ b ∨ N b) := by
  rcases r with ⟨hm, hn, rp⟩ | ⟨hm, a, ds, vs, rfl, rfl, hn, h1, t, hz, na, hb⟩
  · have e1 := e.congr (P' := P) fun b => ⟨fun z => z.elim id fun z => absurd z (hn b), .inl⟩
    have rp1 : Rep K (Rr P M ρ σ) H d v := rp.mono fun b o z n => ⟨z, fun w => n (w.elim (fun w => .inl (.inl w)) .inr)⟩
    obtain ⟨e2, b2⟩ := e1.put hm rp1
    have hs : ∀ j ∈ [i], md M j = .shr := fun j hj => by
      have : j = i := by simpa using hj
      rw [this]; exact hm
    have ho : ∀ b, OwnO M (ρ.set i (some d)) (σ.set i (some v)) b ↔ OwnO M ρ σ b := fun b => exists_congr fun k => and_congr_right fun _ => b2.own hs
    refine ⟨e2, fun b z => ow b ((ho b).mp z), fun b z => .inl ((ho b).mp z), fun j hj => ?_, fun b z => .inl ((b2.ownA hs).mp z)⟩
    have : j ∉ [i] := fun z => by rw [hs j z] at hj; rcases hj with hj | hj <;> cases hj
    rw [(b2.out j this).1, (b2.out j this).2]
    exact ⟨rfl, Iff.rfl⟩
  · have e1 := e.congr (P' := fun b => P b ∨ b = a) fun b => or_congr_right (hn b)
    obtain ⟨e2, o2, o3, o4⟩ := e1.putO ow na hb (hP a ((hn a).mpr rfl)) hm h1 (t.mono fun b o z n => ⟨z, fun w => n (by
      rcases w with (w | w) | w
      · exact .inl (.inl w)
      · exact .inr w
      · exact .inl (.inr ((hn b).mpr w)))⟩) hz
    refine ⟨e2, o2, fun b z => (o3 b z).imp id fun w => (hn b).mpr w, o4, fun b z => ?_⟩
    by_cases hi : i < ρ.length
    · obtain ⟨j, z⟩ := z
      rcases (ownI_set hi e.len).mp z with ⟨_, _, w⟩ | ⟨_, w⟩
      · exact .inr ((hn b).mpr (by cases w; rfl))
      · exact .inl ⟨j, w⟩
    · rw [List.set_eq_of_length_le (by omega), List.set_eq_of_length_le (by rw [← e.len]; omega)] at z
      exact .inl z
end
section
variable {X : Cx} {R0 : Addr → Prop} {M M' : List Mode} {xr : XR} {W : WX} {fr q qa qb qi qt qe : Bool} {fl fa fb fe : Fl} {σ : L2.St} {H H' H1 H2 : Hp} {ρ ρ1 ρ2 : Env} {g ga gb : Env → Out D} {e a b : Expr} {pos : Pos}
/-- a part whose value goes into the i-th name: its flavour fits the name's mode -/
def ParOk (M : List Mode) (i : Nat) (q : Bool) (fl : Fl) (g : Env → Out D) : Prop := (md M i = .shr ∧ fl ≠ .bor) ∨ (md M i = .own ∧ q = true ∧ fl = .fresh ∧ ∀ ρ d ρ', g ρ = .ok d ρ' → ∃ ds, d = .lst ds)
/-- from a value just come -/
theorem put_of {K : PySem.W.Frag} {i : Nat} {d : D} {v : V} (po : ParOk M i q fl g) (hg : g ρ = .ok d ρ1) (env : EnvOk K R0 M σ H ρ) (m : Mv K R0 M σ q H ρ H1 ρ1) (vo : VOk K (Rr R0 M ρ σ) fl H H1 d v) :
    ∃ N : Addr → Prop, EnvOk K (fun b => R0 b ∨ N b) M σ H1 ρ1 ∧ (∀ b, N b → H b = none ∧ H1 b ≠ none) ∧ PutR K (fun b => R0 b ∨ N b) M σ ρ1 H1 i d v N := by
  rcases po with ⟨hm, hfl⟩ | ⟨hm, hq, hfl, hl⟩
  · refine ⟨fun _ => False, m.env.congr fun b => ⟨.inl, fun z => z.elim id False.elim⟩, fun b z => z.elim, .inl ⟨hm, fun _ z => z, ?_⟩⟩
    have r := vo.rep hfl fun a z => env.domR z
    rw [← m.rr] at r
    exact r.mono fun b o z n => ⟨z, fun w => n (w.elim (fun w => .inl (w.elim id False.elim)) .inr)⟩
  · subst hq hfl
    obtain ⟨sm, er⟩ := m.quiet rfl
    subst er
    obtain ⟨ds, rfl⟩ := hl _ _ _ hg
    obtain ⟨a, vs, rfl, h0, h1, t, z⟩ := vo
    refine ⟨fun b => b = a, env.addNew sm h0 (by rw [h1]; exact fun z => by cases z) m.env.kf, fun b e => by rw [e]; exact ⟨h0, by rw [h1]; exact fun z => by cases z⟩, .inr ⟨hm, a, ds, vs, rfl, rfl, fun _ => Iff.rfl, h1, t.mono fun b o z n => ⟨z, fun w => n ?_⟩, z, fun w => env.domR (.inr w) h0, fun j d hj hd hs => ?_⟩⟩
    · rcases w with (w | w) | w
      · exact .inl (.inl w)
      · exact .inr w
      · exact .inl (.inr w)
    · obtain ⟨v, hv, so⟩ := env.slot j d hd
      rw [hs] at hv; cases hv
      rcases so.ref with z | ⟨o, z⟩
      · exact z h0
      · rw [m.env.kf a o z] at h1; cases h1
theorem PutR.mono {K : PySem.W.Frag} {P P' N : Addr → Prop} {σ' : L2.St} {ρ' : Env} {i : Nat} {d : D} {v : V} (r : PutR K P M σ ρ H i d v N) (hk : ∀ b o, H b = some o → ¬ Rr P M ρ σ b → H' b = some o ∧ ¬ Rr P' M ρ' σ' b) (hl : ∀ b o, N b → H b = some o → H' b = some o)
    (ho : ∀ b, N b → OwnA M ρ' σ' b → OwnA M ρ σ b) (hb : ∀ j, md M j = .bor → σ'[j]? = σ[j]? ∧ ((∃ x, gv ρ' j = some x) ↔ ∃ x, gv ρ j = some x)) : PutR K P' M σ' ρ' H' i d v N := by
  rcases r with ⟨hm, hn, rp⟩ | ⟨hm, a, ds, vs, e1, e2, hn, h1, t, hz, na, hbo⟩
  · exact .inl ⟨hm, hn, rp.mono hk⟩
  · refine .inr ⟨hm, a, ds, vs, e1, e2, hn, hl a _ ((hn a).mpr rfl) h1, t.mono hk, hz, fun w => na (ho a ((hn a).mpr rfl) w), fun j d hj hd hs => ?_⟩
    obtain ⟨x, hx⟩ := (hb j hj).2.mp ⟨d, hd⟩
    exact hbo j x hj hx (by rw [← (hb j hj).1]; exact hs)
theorem s_par {i j : Nat} {x y : Str} {px py pt : Pos} {kt k2 pt2} (hx : XrOk xr) (hc : X.calm = true) (hN : X.N.Nodup) (hi : X.N[i]? = some x) (hj : X.N[j]? = some y) (hij : i ≠ j)
    (hlx : X.env.scope.names.lookup x = some .local) (hly : X.env.scope.names.lookup y = some .local) (ha : PE X a (tO X.K R0 M xr W qa fa ga)) (hb : ∀ R2, PE X b (tO X.K R2 M xr W qb fb gb)) (pa : ParOk M i qa fa ga) (pb : ParOk M j qb fb gb)
    (hst : starEach [a, b] X.env = (false, eval a X.env) :: starEach [b] X.env) (hst2 : starEach [b] X.env = (false, eval b X.env) :: starEach [] X.env)
    (hw : swappedStores [.Tuple [.Name x px, .Name y py] kt pt] (.Tuple [a, b] k2 pt2) X.env = pure (some [x, y]))
    (hs : swapsWithSole [.Tuple [.Name x px, .Name y py] kt pt] (.Tuple [a, b] k2 pt2) pos.line X.env = pure false) :
    PS X (.Assign [.Tuple [.Name x px, .Name y py] kt pt] (.Tuple [a, b] k2 pt2) pos) (tS X.K R0 M xr W fr fun ρ => (ga ρ).toS fun d1 ρ => (gb ρ).toS fun d2 ρ => .next ((ρ.set i (some d1)).set j (some d2))) := by
  have hb' : PE X b (fun σ H Q => ∃ R2, tO X.K R2 M xr W qb fb gb σ H Q) := ⟨fun pins s σ H Q I ⟨R2, h⟩ => (hb R2).run pins s σ H Q I h⟩
  refine PS.mono (ps_par hc hN hi hj hij hlx hly (pa_cons ha (pa_cons hb' pa_nil hst2) hst) hw hs) fun D σ H ⟨ρ, env, ow, h⟩ => ⟨ρ, env, ?_⟩
  dsimp only at h
  cases e1 : ga ρ with
  | stuck => rw [e1] at h; exact h.elim
  | exc c p ρ1 =>
    rw [e1] at h
    exact fun cv dx H1 m x => h cv dx σ H1 (m.toS ow) (hx _ _ _ _ _ _ _ (fun a z => .inl z) x)
  | ok d1 ρ1 =>
    rw [e1] at h
    dsimp only [Out.toS] at h
    intro v1 H1 m1 vo1
    obtain ⟨N1, en1, hn1, pr1⟩ := put_of (i := i) pa e1 env m1 vo1
    have ow1 : OwnR R0 M ρ1 σ := fun a z => ow a ((ownO_live m1.live).mp z)
    refine ⟨_, ρ1, en1, ?_⟩
    cases e2 : gb ρ1 with
    | stuck => rw [e2] at h; exact h.elim
    | exc c p ρ2 =>
      rw [e2] at h
      intro cv dx H2 m2 x
      have m2' : MvS X.K R0 M H1 σ ρ1 H2 σ ρ2 := ⟨m2.env.lessR, fun a z => ow1 a ((ownO_live m2.live).mp z), m2.frm.keep, m2.frm.there, fun a z => .inl ((ownO_live m2.live).mp z), fun k _ => ⟨rfl, m2.live.2 k⟩⟩
      exact h cv dx σ H2 ((m1.toS ow).trans m2') (hx _ _ _ _ _ _ _ (fun a z => .inl (.inl z)) x)
    | ok d2 ρ2 =>
      rw [e2] at h
      dsimp only at h
      intro v2 H2 m2 vo2
      obtain ⟨N2, en2, hn2, pr2⟩ := put_of (i := j) pb e2 en1 m2 vo2
      refine ⟨v1, v2, rfl, ?_⟩
      -- what is new is no name's, and not shut out before
      have dA : ∀ b, N1 b → ¬ OwnA M ρ1 σ b := fun b z w => m1.env.domR (.inr w) |> fun _ => by
        have := (hn1 b z).1
        exact env.domR (.inr (m1.live.ownA.mp w)) this
      have d1R : ∀ b, N1 b → ¬ R0 b := fun b z w => env.dom b w (hn1 b z).1
      have d2R : ∀ b, N2 b → ¬ (R0 b ∨ N1 b) := fun b z w => en1.dom b w (hn2 b z).1
      have d2A : ∀ b, N2 b → ¬ OwnA M ρ2 σ b := fun b z w => en1.domR (.inr (m2.live.ownA.mp w)) (hn2 b z).1
      have ow2 : OwnR (fun b => R0 b ∨ N2 b) M ρ2 σ := fun b z w => by
        have zA : OwnA M ρ2 σ b := ownA_iff.mpr (.inl z)
        rcases w with w | w
        · exact ow1 b ((ownO_live m2.live).mp z) w
        · exact d2A b w zA
      -- the first
      have en2' : EnvOk X.K (fun b => (R0 b ∨ N2 b) ∨ N1 b) M σ H2 ρ2 := en2.congr fun b => by
        constructor
        · rintro ((z | z) | z)
          · exact .inl (.inl z)
          · exact .inr z
          · exact .inl (.inr z)
        · rintro ((z | z) | z)
          · exact .inl (.inl z)
          · exact .inr z
          · exact .inl (.inr z)
      have pr1' : PutR X.K (fun b => (R0 b ∨ N2 b) ∨ N1 b) M σ ρ2 H2 i d1 v1 N1 := pr1.mono (fun b o z n => ⟨m2.frm.keep b o z fun w => n (.inr w), fun w => by
          rcases w with ((w | w) | w) | w
          · exact n (.inl (.inl w))
          · rw [(hn2 b w).1] at z; cases z
          · exact n (.inl (.inr w))
          · exact n (.inr (m2.live.ownA.mp w))⟩) (fun b o z e => m2.frm.keep b o e (dA b z)) (fun b z w => m2.live.ownA.mp w) fun k _ => ⟨rfl, m2.live.2 k⟩
      obtain ⟨e3, o3, p3, s3, q3⟩ := put_any en2' ow2 (fun b z w => w.elim (d1R b z) fun w => d2R b w (.inr z)) pr1'
      -- the second
      have pr2' : PutR X.K (fun b => R0 b ∨ N2 b) M (σ.set i (some v1)) (ρ2.set i (some d1)) H2 j d2 v2 N2 := pr2.mono (fun b o z n => ⟨z, fun w => by
          rcases w with (w | w) | w
          · exact n (.inl (.inl (.inl w)))
          · exact n (.inl (.inr w))
          · rcases q3 b w with w | w
            · exact n (.inr w)
            · exact n (.inl (.inl (.inr w)))⟩) (fun _ _ _ z => z) (fun b z w => (q3 b w).elim id fun w => absurd (.inr w) (d2R b z)) fun k hk => s3 k (.inr hk)
      obtain ⟨e4, o4, p4, s4, q4⟩ := put_any e3 (fun b z w => o3 b z (.inl w)) (fun b z w => d2R b z (.inl w)) pr2'
      have fresh1 : ∀ b, N1 b → H b = none := fun b z => (hn1 b z).1
      have fresh2 : ∀ b, N2 b → H b = none := fun b z => m1.was (hn2 b z).1
      refine h _ H2 ⟨e4, o4, fun b o z n => ?_, fun b z => m2.frm.there b (m1.frm.there b z), fun b z => ?_, fun k hk => ?_⟩
      · exact m2.frm.keep b o (m1.frm.keep b o z n) fun w => n (m1.live.ownA.mp w)
      · rcases p4 b z with z | z
        · rcases p3 b z with z | z
          · exact .inl ((ownO_live m1.live).mp ((ownO_live m2.live).mp z))
          · exact .inr (fresh1 b z)
        · exact .inr (fresh2 b z)
      · exact ⟨(s4 k hk).1.trans (s3 k hk).1, (s4 k hk).2.trans ((s3 k hk).2.trans ((m2.live.2 k).trans (m1.live.2 k)))⟩

/-! ### name = [.. for ..] on one line -/
section
variable {tg iter elt : Expr} {ifs : List Expr} {scope : Scope} {own : List (Str × Nat)} {cpos spos py : Pos} {t : T} {gi : Env → Out (List D)} {gt : Env → Out Bool} {ge : Env → Out D} {i : Nat} {y : Str}
theorem s_setLc (hx : XrOk xr) (hc : X.calm = true) (hN : X.N.Nodup) (hy : X.N[i]? = some y) (hyl : X.env.scope.names.lookup y = some .local) (hm : md M i = .shr) (hsw : swapsWith (.ListComp elt [⟨tg, iter, ifs, 0⟩] scope cpos) (some (.Name y py)) spos.line X.env = pure true)
    (hi : PI X tg iter (tI X.K R0 M M' xr W qi gi)) (ok : BlkOk X.N X.env.scope scope own) (hMM : MW M M') (hv : ∀ i ∈ own.map (·.2), md M i = .shr) (htv : ∀ i ∈ varsT t, i ∈ own.map (·.2)) (hfe : fe ≠ .bor)
    (hg : ∀ (R2 : Addr → Prop) (s : Shared) (H : Hp) (C : Addr) (cl : List (Str × Addr)) (fp : List Addr), PG (X.blk s H scope (compEnvC scope cl C X.env) fp) tg (gT X.K R2 M' t))
    (ht : ∀ (R2 : Addr → Prop) (s : Shared) (H : Hp) (C : Addr) (cl : List (Str × Addr)) (fp : List Addr), PTs (X.blk s H scope (compEnvC scope cl C X.env) fp) ifs (tT X.K R2 M' xr WF qt gt))
    (he : ∀ (R2 : Addr → Prop) (s : Shared) (H : Hp) (C : Addr) (cl : List (Str × Addr)) (fp : List Addr), PE (X.blk s H scope (compEnvC scope cl C X.env) fp) elt (tO X.K R2 M' xr WF qe fe ge)) (hs : ∀ x, foldedSetIterable iter X.env x = pure x) :
    PS X (.Assign [.Name y py] (.ListComp elt [⟨tg, iter, ifs, 0⟩] scope cpos) spos) (tS X.K R0 M xr W fr fun ρ => ((gi ρ).bind (compO t gt ge (own.map (·.2)))).toS fun d ρ => match bindT (.name i) d ρ with
      | some ρ => .next ρ
      | none => .stuck) := by
  obtain ⟨hg', ht', he'⟩ := lc_parts hg ht he
  refine PS.monoK (ps_setLc hc hN hy hyl hsw hi ok hg' ht' he' hs) fun D σ H h => ?_
  exact comp_t (fl := .fresh) hMM hv htv hfe (by decide) (set_t (q := qi && (qt && qe)) (fl := .fresh) hx (by decide) hm h)
theorem s_setLcO (hx : XrOk xr) (hc : X.calm = true) (hN : X.N.Nodup) (hy : X.N[i]? = some y) (hyl : X.env.scope.names.lookup y = some .local) (hm : md M i = .own) (hq : (qi && (qt && qe)) = true) (hsw : swapsWith (.ListComp elt [⟨tg, iter, ifs, 0⟩] scope cpos) (some (.Name y py)) spos.line X.env = pure true)
    (hi : PI X tg iter (tI X.K R0 M M' xr W qi gi)) (ok : BlkOk X.N X.env.scope scope own) (hMM : MW M M') (hv : ∀ i ∈ own.map (·.2), md M i = .shr) (htv : ∀ i ∈ varsT t, i ∈ own.map (·.2)) (hfe : fe ≠ .bor)
    (hg : ∀ (R2 : Addr → Prop) (s : Shared) (H : Hp) (C : Addr) (cl : List (Str × Addr)) (fp : List Addr), PG (X.blk s H scope (compEnvC scope cl C X.env) fp) tg (gT X.K R2 M' t))
    (ht : ∀ (R2 : Addr → Prop) (s : Shared) (H : Hp) (C : Addr) (cl : List (Str × Addr)) (fp : List Addr), PTs (X.blk s H scope (compEnvC scope cl C X.env) fp) ifs (tT X.K R2 M' xr WF qt gt))
    (he : ∀ (R2 : Addr → Prop) (s : Shared) (H : Hp) (C : Addr) (cl : List (Str × Addr)) (fp : List Addr), PE (X.blk s H scope (compEnvC scope cl C X.env) fp) elt (tO X.K R2 M' xr WF qe fe ge)) (hs : ∀ x, foldedSetIterable iter X.env x = pure x) :
    PS X (.Assign [.Name y py] (.ListComp elt [⟨tg, iter, ifs, 0⟩] scope cpos) spos) (tS X.K R0 M xr W fr fun ρ => ((gi ρ).bind (compO t gt ge (own.map (·.2)))).toS fun d ρ => if isMut d then .next (ρ.set i (some d)) else .stuck) := by
  obtain ⟨hg', ht', he'⟩ := lc_parts hg ht he
  refine PS.monoK (ps_setLc hc hN hy hyl hsw hi ok hg' ht' he' hs) fun D σ H h => ?_
  have := setO_t hx hm h
  rw [← hq] at this
  exact comp_t (fl := .fresh) hMM hv htv hfe (by decide) this
end
end
end Ev
end -- EvS5

section -- EvX8
set_option Elab.async false
set_option linter.all false
set_option maxRecDepth 100000
set_option maxHeartbeats 1000000
/-! EvX8: methods of texts. -/
namespace Ev
open PySem PySem.Spec PyProof.Rows L2
section
variable {X : Cx} {R0 : Addr → Prop} {M : List Mode} {xr : XR} {W : WX} {q qa qb : Bool} {fl fa fb : Fl} {σ : L2.St} {H H1 H2 H' : Hp} {ρ ρ1 ρ2 : Env} {d : D} {v : V} {Q : VK} {ga gb : Env → Out D} {o e : Expr}
/-- o.m(e), o a text, by values -/
theorem x_methS {id : String} {name : Str} {apos cpos : Pos} {m : MK} {r : V → List V → Hp → VK → Prop} (slot : Slot "str" name id) (hty : typeOf (.builtin id) = pure (.type "method_descriptor")) (hm : MtR X id r) (hr : ∀ d, recvOk m d = true → ∃ s, d = .str s)
    (hop : ∀ (R : Addr → Prop) (s : List Nat) (db d : D) (y : V) (H : Hp) (Q : VK), StrB s → BorOk X.K R H db y → opM m (.str s) [db] = some d → (∀ v, Rep X.K R H d v → Q v H) → r (.str (mkS s)) [y] H Q) (hflat : ∀ s db d, opM m (.str s) [db] = some d → isMut d = false)
    (ha : PE X o (tO X.K R0 M xr W qa fa ga)) (hb : PE X e (tO X.K R0 M xr W qb fb gb)) (hst : starEach [e] X.env = (false, eval e X.env) :: starEach [] X.env)
    (hbase : attributeBase o name X.env (eval o X.env) = eval o X.env)
    (hfew : ((backTo cpos (starEach [e] X.env)).all (fun x => !x.1) && (backToKw cpos (keywordEach [] X.env)).all (fun x => x.1.isSome) && decide (([e] : List Expr).length + ([] : List Keyword).length + (if ([] : List Keyword).isEmpty then 0 else 1) < 30)) = true)
    (hline : (apos.endLine == cpos.line) = true) (hplain : (backTo cpos (starEach [] X.env)).any (·.1) = false) :
    PE X (.Call (.Attribute o name apos) [e] [] cpos) (tO X.K R0 M xr W (qa && qb) fl fun ρ => (ga ρ).bind fun x ρ => if recvOk m x then ((gb ρ).bind fun y ρ => Out.ok [y] ρ).bind fun xs ρ => lift (opM m x xs) ρ else .stuck) :=
  PE.mono (pe_bm PySem.F.plainAttrs_str slot hty hm ha (pa_cons hb pa_nil hst) hbase hfew hline hst hplain) fun σ H Q ⟨ρ, env, h⟩ => by
    refine one env h fun x ρ1 xv H1 m1 vo h1 => ?_
    cases er : recvOk m x with
    | false => rw [er, if_neg Bool.false_ne_true] at h1; exact h1.elim
    | true =>
      rw [er, if_pos rfl] at h1
      obtain ⟨s, rfl⟩ := hr x er
      have rs : xv = .str (mkS s) ∧ StrB s := by
        cases (show Rep X.K _ H1 (.str s) xv from vo.toBor) with
        | str _ z => exact ⟨rfl, z⟩
      obtain ⟨rfl, sb⟩ := rs
      refine ⟨rfl, ρ1, m1.env, ?_⟩
      cases eb : gb ρ1 with
      | stuck => rw [eb] at h1; exact h1.elim
      | exc c p ρ2 =>
        rw [eb] at h1
        intro cv dx H2 m2 xx
        rw [m1.rr] at xx
        exact h1 cv dx H2 ((m1.trans m2).weak fun z => by cases z) xx
      | ok y ρ2 =>
        rw [eb] at h1
        dsimp only [Out.bind] at h1
        intro yv H2 m2 vb
        rw [m1.rr] at vb
        cases eo : opM m (.str s) [y] with
        | none => rw [eo] at h1; exact h1.elim
        | some d =>
          rw [eo] at h1
          have mm := m1.trans m2
          exact hop (Rr R0 M ρ σ) s y d yv H2 _ sb vb.toBor eo fun v rv => h1 v H2 mm (VOk.flat rv (hflat _ _ _ eo))
theorem find_op {K : PySem.W.Frag} (R : Addr → Prop) (s : List Nat) (db d : D) (y : V) (H : Hp) (Q : VK) (_ : StrB s) (hb : BorOk K R H db y) (e : opM .find (.str s) [db] = some d) (q : ∀ v, Rep K R H d v → Q v H) :
    ∃ a b, V.str (mkS s) = .str a ∧ [y] = [V.str b] ∧ Q (.int (Txt.find a b)) H := by
  cases db with
  | str t =>
    cases e
    cases (show Rep K R H (.str t) y from hb) with
    | str _ z =>
      refine ⟨_, _, rfl, rfl, q _ ?_⟩
      have h := find_spec t s
      unfold Txt.find
      cases f : findS t s 0 with
      | none => rw [f] at h; rw [h]; exact .int _
      | some i => rw [f] at h; obtain ⟨r, h⟩ := h; rw [h]; exact .int _
  | _ => cases e
theorem find_flat (s : List Nat) (db d : D) (e : opM .find (.str s) [db] = some d) : isMut d = false := by
  cases db with
  | str t => cases e; rfl
  | _ => cases e
theorem strs_rep {K : PySem.W.Frag} {R : Addr → Prop} {H : Hp} : ∀ {xs : List D} {vs : List V} {ys : List (List Nat)}, RepL K R H xs vs → strsOf xs = some ys → vs = (ys.map mkS).map V.str ∧ ∀ y ∈ ys, StrB y
  | [], _, _, .nil, e => by cases e; exact ⟨rfl, fun y h => absurd h (by simp)⟩
  | x :: xs, _, ys, .cons r t, e => by
    cases x with
    | str s =>
      obtain ⟨zs, ez, rfl⟩ := Option.map_eq_some_iff.mp (show (strsOf xs).map (s :: ·) = some ys from e)
      obtain ⟨rfl, hz⟩ := strs_rep t ez
      cases r with
      | str _ z =>
        refine ⟨rfl, fun y hy => ?_⟩
        rcases List.mem_cons.mp hy with e | hy
        · rw [e]; exact z
        · exact hz y hy
    | _ => cases e
theorem join_rows (sep : List Nat) : ∀ ys : List (List Nat), TL.joinL sep ys = joinL sep ys
  | [] => rfl
  | [_] => rfl
  | x :: y :: r => by
    show x ++ (sep ++ TL.joinL sep (y :: r)) = x ++ sep ++ joinL sep (y :: r)
    rw [join_rows sep (y :: r), List.append_assoc]
theorem join_same (sep : List Nat) (ys : List (List Nat)) : Txt.join (mkS sep) (ys.map mkS) = mkS (joinL sep ys) := by
  rw [TL.join_eq]
  refine TL.ext_tl ?_
  rw [TL.tl_join, List.map_map, join_rows]
  have : (TL.tl ∘ mkS) = id := by funext x; rfl
  rw [this, List.map_id]
theorem join_all {sep : List Nat} {p : Nat → Prop} (hs : ∀ c ∈ sep, p c) : ∀ {ys : List (List Nat)}, (∀ y ∈ ys, ∀ c ∈ y, p c) → ∀ c ∈ joinL sep ys, p c
  | [], _, c, h => by cases h
  | [y], hy, c, h => hy y List.mem_cons_self c h
  | x :: y :: r, hy, c, h => by
    rcases List.mem_append.mp (show c ∈ (x ++ sep) ++ joinL sep (y :: r) from h) with h | h
    · rcases List.mem_append.mp h with h | h
      · exact hy x List.mem_cons_self c h
      · exact hs c h
    · exact join_all hs (fun z hz => hy z (List.mem_cons_of_mem _ hz)) c h
theorem join_len (sep : List Nat) : ∀ ys : List (List Nat), (joinL sep ys).length ≤ (ys.map (·.length)).sum + ys.length * sep.length
  | [] => by simp [joinL]
  | [y] => by simp [joinL]
  | x :: y :: r => by
    have ih := join_len sep (y :: r)
    show ((x ++ sep) ++ joinL sep (y :: r)).length ≤ _
    rw [List.length_append, List.length_append]
    simp only [List.map_cons, List.sum_cons, List.length_cons] at ih ⊢
    rw [Nat.add_mul (r.length + 1) 1 sep.length]
    omega
theorem join_op {K : PySem.W.Frag} (R : Addr → Prop) (s : List Nat) (db d : D) (y : V) (H : Hp) (Q : VK) (sb : StrB s) (hb : BorOk K R H db y) (e : opM .join (.str s) [db] = some d) (q : ∀ v, Rep K R H d v → Q v H) :
    ∃ a p, ∃ ys : List Str, V.str (mkS s) = .str a ∧ [y] = [V.ref p] ∧ (SqL K H p (ys.map V.str) ∨ SqT K H p (ys.map V.str)) ∧ (ys.map (·.length)).sum + ys.length * a.length ≤ 16777216 ∧ Q (.str (Txt.join a ys)) H := by
  have fin : ∀ {xs : List D} {vs : List V} {p : Addr}, y = .ref p → RepL K R H xs vs → (SqL K H p vs ∨ SqT K H p vs) → (((strsOf xs).bind fun ys => if (ys.map (·.length)).sum + ys.length * s.length ≤ LIM then some (D.str (joinL s ys)) else none) = some d) →
      ∃ a p, ∃ ys : List Str, V.str (mkS s) = .str a ∧ [y] = [V.ref p] ∧ (SqL K H p (ys.map V.str) ∨ SqT K H p (ys.map V.str)) ∧ (ys.map (·.length)).sum + ys.length * a.length ≤ 16777216 ∧ Q (.str (Txt.join a ys)) H := fun {xs vs p} ey rl hq e => by
    obtain ⟨ys, e1, e2⟩ := Option.bind_eq_some_iff.mp e
    by_cases hz : (ys.map (·.length)).sum + ys.length * s.length ≤ LIM
    · rw [if_pos hz] at e2
      cases e2
      obtain ⟨rfl, hy⟩ := strs_rep rl e1
      have lens : (ys.map mkS).map (·.length) = ys.map (·.length) := by
        rw [List.map_map]; rfl
      refine ⟨_, p, ys.map mkS, rfl, by rw [ey], hq, ?_, ?_⟩
      · rw [lens, List.length_map]; exact hz
      · rw [join_same]
        exact q _ (.str _ ⟨Nat.le_trans (join_len s ys) hz, join_all sb.2 fun y hm => (hy y hm).2⟩)
    · rw [if_neg hz] at e2; cases e2
  cases db with
  | tup t =>
    obtain ⟨p, vs, rfl, h1, t1, hz⟩ := hb.tup
    exact fin rfl t1 (.inr h1) e
  | lst t =>
    obtain ⟨p, vs, rfl, h1, t1, hz⟩ := hb.lst
    exact fin rfl t1 (.inl h1) e
  | _ => cases e
theorem join_flat (s : List Nat) (db d : D) (e : opM .join (.str s) [db] = some d) : isMut d = false := by
  obtain ⟨ys, e1, e2⟩ := Option.bind_eq_some_iff.mp (show ((seqD db).bind strsOf).bind (fun ys => if (ys.map (·.length)).sum + ys.length * s.length ≤ LIM then some (D.str (joinL s ys)) else none) = some d from e)
  split at e2
  · cases e2; rfl
  · cases e2
end
end Ev
end -- EvX8

section -- EvX9
set_option Elab.async false
set_option linter.all false
set_option maxRecDepth 100000
set_option maxHeartbeats 1000000
/-! EvX9: what was left over of the expressions. -/
namespace Ev
open PySem PySem.Spec PyProof.Rows L2
section
variable {X : Cx} {R0 : Addr → Prop} {M : List Mode} {xr : XR} {W : WX} {q qa qb qc : Bool} {fl fa fb fc : Fl} {σ : L2.St} {H H1 H2 H' : Hp} {ρ ρ1 ρ2 : Env} {d : D} {v : V} {Q : VK}
theorem x_and1 {a : Expr} {t : TE} {pos : Pos} (h : PE X a t) : PE X (.BoolOp .And [a] pos) t := ⟨fun pins s σ H Q I q => by
  have := h.run pins s σ H Q I q
  have e : eval (.BoolOp .And [a] pos) X.env = eval a X.env := by rfl
  rw [e]; exact this⟩
theorem x_or1 {a : Expr} {t : TE} {pos : Pos} (h : PE X a t) : PE X (.BoolOp .Or [a] pos) t := ⟨fun pins s σ H Q I q => by
  have := h.run pins s σ H Q I q
  have e : eval (.BoolOp .Or [a] pos) X.env = eval a X.env := by rfl
  rw [e]; exact this⟩
/-- a op b op' c as a test -/
theorem x_chainT {ga gb gc : Env → Out D} {op op' : D → D → Option Bool} {a b c : Expr} {po po' : CmpOp} {pos : Pos} (ho : OpR X (compareOp po) (rD X.K (fun x y => (op x y).map .bl) true)) (ho' : OpR X (compareOp po') (rD X.K (fun x y => (op' x y).map .bl) true))
    (ha : PE X a (tO X.K R0 M xr W qa fa ga)) (hb : PE X b (tO X.K R0 M xr W qb fb gb)) (hc : PE X c (tO X.K R0 M xr W qc fc gc)) (hq : fa = .bor → qb = true) (hq2 : fb = .bor → qc = true) (hm : lastMarks [po, po'] [b, c] = false) :
    PT X (.Compare a [po, po'] [b, c] pos) (tT X.K R0 M xr W (qa && qb && qc) (tr fun ρ => (ga ρ).bind fun x ρ => (gb ρ).bind fun y ρ => match op x y with
      | some true => (gc ρ).bind fun z ρ => lift ((op' y z).map .bl) ρ
      | some false => .ok (.bl false) ρ
      | none => .stuck)) := by
  refine PT.mono (pt_chain ho ho' ha hb hc hm) fun σ H Q ⟨ρ, env, h⟩ => ?_
  have h' : Rest X.K R0 M xr W (qa && qb && qc) .shr σ H ρ (fun x H1 => ∃ k, x = .bl k ∧ Q k H1) ((ga ρ).bind fun x ρ => (gb ρ).bind fun y ρ => match op x y with
      | some true => (gc ρ).bind fun z ρ => lift ((op' y z).map .bl) ρ
      | some false => .ok (.bl false) ρ
      | none => .stuck) := by
    have bl : ∀ {o : Out D}, (∀ d ρ', o = .ok d ρ' → ∃ k, d = .bl k) → RestB X.K R0 M xr W (qa && qb && qc) σ H ρ Q (o.bind fun x ρ => lift (truthD x) ρ) → Rest X.K R0 M xr W (qa && qb && qc) .shr σ H ρ (fun x H1 => ∃ k, x = .bl k ∧ Q k H1) o := fun {o} hk ho => by
      cases o with
      | ok d ρ' =>
        obtain ⟨k, rfl⟩ := hk d ρ' rfl
        intro v H' m vo
        cases (show Rep _ _ _ (.bl k) v from vo)
        exact ⟨k, rfl, ho H' m⟩
      | exc c p ρ' => exact ho
      | stuck => exact ho
    refine bl (fun d ρ' ed => ?_) h
    cases e1 : ga ρ with
    | ok d1 ρ1 =>
      rw [e1] at ed
      dsimp only [Out.bind] at ed
      cases e2 : gb ρ1 with
      | ok d2 ρ2 =>
        rw [e2] at ed
        dsimp only at ed
        cases e3 : op d1 d2 with
        | none => rw [e3] at ed; cases ed
        | some b =>
          rw [e3] at ed
          cases b with
          | false => cases ed; exact ⟨_, rfl⟩
          | true =>
            dsimp only at ed
            cases e4 : gc ρ2 with
            | ok d3 ρ3 =>
              rw [e4] at ed
              dsimp only at ed
              cases e5 : op' d2 d3 with
              | none => rw [e5] at ed; cases ed
              | some b => rw [e5] at ed; cases ed; exact ⟨_, rfl⟩
            | exc _ _ _ => rw [e4] at ed; cases ed
            | stuck => rw [e4] at ed; cases ed
      | exc _ _ _ => rw [e2] at ed; cases ed
      | stuck => rw [e2] at ed; cases ed
    | exc _ _ _ => rw [e1] at ed; cases ed
    | stuck => rw [e1] at ed; cases ed
  refine two env h' hq fun da db ρ2 x y H1 H2 m v1 _ v2 hR r => ?_
  have r : Rest X.K R0 M xr W (qa && qb && qc) .shr σ H ρ (fun x H1 => ∃ k, x = .bl k ∧ Q k H1) (match op da db with
      | some true => (gc ρ2).bind fun z ρ => lift ((op' db z).map .bl) ρ
      | some false => .ok (.bl false) ρ2
      | none => .stuck) := r
  cases e : op da db with
  | none => rw [e] at r; exact r.elim
  | some k =>
    refine ⟨Rr R0 M ρ σ, da, db, .bl k, v1, v2.toBor, by dsimp only; rw [e]; rfl, fun z H3 o => ?_⟩
    obtain ⟨rfl, rfl⟩ := o.bl
    refine ⟨k, rfl, ?_⟩
    rw [e] at r
    cases k with
    | false => exact r _ _ (m.weak fun z => by rw [Bool.and_eq_true] at z; exact z.1) (VOk.flat (.bl _) rfl)
    | true =>
      refine ⟨ρ2, m.env, ?_⟩
      cases e2 : gc ρ2 with
      | ok dc ρ3 =>
        dsimp only at r
        rw [e2] at r
        intro w H4 m2 v4
        rw [m.rr] at v4
        have r : Rest X.K R0 M xr W (qa && qb && qc) .shr σ H ρ (fun x H1 => ∃ k, x = .bl k ∧ Q k H1) (lift ((op' db dc).map .bl) ρ3) := r
        have m3 := m.trans m2
        cases e3 : op' db dc with
        | none => rw [e3] at r; exact r.elim
        | some k2 =>
          rw [e3] at r
          refine ⟨Rr R0 M ρ σ, db, dc, .bl k2, v2.moved m2 m.live hR hq2, v4.toBor, by dsimp only; rw [e3]; rfl, fun z H5 o => ?_⟩
          obtain ⟨rfl, rfl⟩ := o.bl
          exact r _ _ m3 (VOk.flat (.bl _) rfl)
      | exc c p ρ3 =>
        dsimp only at r
        rw [e2] at r
        intro cv dx H4 m2 xx
        rw [m.rr] at xx
        exact r cv dx H4 ((m.trans m2).weak fun z => by cases z) xx
      | stuck => dsimp only at r; rw [e2] at r; exact r.elim
/-- no tests, one test -/
theorem ts_nil : PTs X [] (tT X.K R0 M xr W true fun ρ => .ok true ρ) := ⟨fun pins s σ H Q I ⟨ρ, env, h⟩ => pts_nil.run pins s σ H Q I (h H (.refl env))⟩
theorem ts_one {a : Expr} {g : Env → Out D} (h : PT X a (tT X.K R0 M xr W q (tr g))) : PTs X [a] (tT X.K R0 M xr W q fun ρ => (g ρ).bind fun x ρ => match truthD x with
      | some true => .ok true ρ
      | some false => .ok false ρ
      | none => .stuck) := by
  refine ⟨fun pins s σ H Q I ⟨ρ, env, hw⟩ => (pts_one h).run pins s σ H Q I ⟨ρ, env, ?_⟩⟩
  show RestB X.K R0 M xr W q σ H ρ Q ((g ρ).bind fun x ρ => lift (truthD x) ρ)
  dsimp only at hw
  cases e : g ρ with
  | ok d ρ1 =>
    rw [e] at hw
    dsimp only [Out.bind] at hw ⊢
    cases e2 : truthD d with
    | none => rw [e2] at hw; exact hw
    | some b => rw [e2] at hw; cases b <;> exact hw
  | exc c p ρ1 => rw [e] at hw; exact hw
  | stuck => rw [e] at hw; exact hw
end
end Ev
end -- EvX9

section -- EvS6
set_option Elab.async false
set_option linter.all false
set_option maxRecDepth 100000
set_option maxHeartbeats 1000000
/-! EvS6: several names at once, any number; list(range(..)). -/
namespace Ev
open PySem PySem.Spec PyProof.Rows L2
abbrev NoA : Addr → Prop := fun _ => False
/-- values that wait for their names; U: all their own places -/
inductive PutRs (K : PySem.W.Frag) (P : Addr → Prop) (M : List Mode) (σ : L2.St) (ρ : Env) (H : Hp) : List Nat → List D → List V → (Addr → Prop) → Prop
  | nil : PutRs K P M σ ρ H [] [] [] NoA
  | cons {i : Nat} {is : List Nat} {d : D} {ds : List D} {v : V} {vs : List V} {N U : Addr → Prop} : PutR K P M σ ρ H i d v N → PutRs K P M σ ρ H is ds vs U → (∀ b, N b → ¬ U b) → PutRs K P M σ ρ H (i :: is) (d :: ds) (v :: vs) (fun b => N b ∨ U b)
section
variable {K : PySem.W.Frag} {P P' N U R0 : Addr → Prop} {M : List Mode} {σ σ' : L2.St} {H H' H1 H2 : Hp} {ρ ρ' ρ1 ρ2 : Env} {d : D} {v : V} {i : Nat} {is : List Nat} {ds : List D} {vs : List V}
theorem PutRs.mono (r : PutRs K P M σ ρ H is ds vs U) (hk : ∀ b o, H b = some o → ¬ Rr P M ρ σ b → H' b = some o ∧ ¬ Rr P' M ρ' σ' b) (hl : ∀ b o, U b → H b = some o → H' b = some o)
    (ho : ∀ b, U b → OwnA M ρ' σ' b → OwnA M ρ σ b) (hb : ∀ j, md M j = .bor → σ'[j]? = σ[j]? ∧ ((∃ x, gv ρ' j = some x) ↔ ∃ x, gv ρ j = some x)) : PutRs K P' M σ' ρ' H' is ds vs U := by
  induction r with
  | nil => exact .nil
  | cons p r hd ih => exact .cons (p.mono hk (fun b o z => hl b o (.inl z)) (fun b z => ho b (.inl z)) hb) (ih (fun b o z => hl b o (.inr z)) fun b z => ho b (.inr z)) hd
def setAll : List Nat → List V → L2.St → L2.St
  | i :: is, v :: vs, σ => setAll is vs (σ.set i (some v))
  | _, _, σ => σ
theorem put_all : ∀ {is : List Nat} {ds : List D} {vs : List V} {U : Addr → Prop} {σ : L2.St} {ρ : Env}, PutRs K (fun b => R0 b ∨ U b) M σ ρ H is ds vs U → EnvOk K (fun b => R0 b ∨ U b) M σ H ρ → OwnR R0 M ρ σ → (∀ b, U b → ¬ R0 b ∧ ¬ OwnA M ρ σ b) →
    EnvOk K R0 M (setAll is vs σ) H (putAll is ds ρ) ∧ OwnR R0 M (putAll is ds ρ) (setAll is vs σ) ∧ (∀ b, OwnO M (putAll is ds ρ) (setAll is vs σ) b → OwnO M ρ σ b ∨ U b) ∧
      ∀ j, md M j = .io ∨ md M j = .bor → (setAll is vs σ)[j]? = σ[j]? ∧ ((∃ x, gv (putAll is ds ρ) j = some x) ↔ ∃ x, gv ρ j = some x)
  | _, _, _, _, σ, ρ, .nil, e, ow, _ => ⟨e.congr fun b => ⟨fun z => z.elim id False.elim, .inl⟩, ow, fun b z => .inl z, fun _ _ => ⟨rfl, Iff.rfl⟩⟩
  | _, _, _, _, σ, ρ, .cons (i := i) (is := is) (d := d) (ds := ds) (v := v) (vs := vs) (N := N) (U := U) p r hd, e, ow, hU => by
    have eqv : ∀ b, (R0 b ∨ (N b ∨ U b)) ↔ ((R0 b ∨ U b) ∨ N b) := fun b => by
      constructor
      · rintro (z | z | z)
        · exact .inl (.inl z)
        · exact .inr z
        · exact .inl (.inr z)
      · rintro ((z | z) | z)
        · exact .inl z
        · exact .inr (.inr z)
        · exact .inr (.inl z)
    have hf : (fun b => R0 b ∨ (N b ∨ U b)) = fun b => (R0 b ∨ U b) ∨ N b := by funext b; exact propext (eqv b)
    have e' := e.congr eqv
    rw [hf] at p
    have ow' : OwnR (fun b => R0 b ∨ U b) M ρ σ := fun b z w => w.elim (ow b z) fun w => (hU b (.inr w)).2 (ownA_iff.mpr (.inl z))
    obtain ⟨e3, o3, p3, s3, q3⟩ := put_any e' ow' (fun b z w => w.elim (hU b (.inl z)).1 fun w => hd b z w) p
    have r' : PutRs K (fun b => R0 b ∨ U b) M (σ.set i (some v)) (ρ.set i (some d)) H is ds vs U := r.mono (fun b o z n => ⟨z, fun w => by
        rcases w with (w | w) | w
        · exact n (.inl (.inl w))
        · exact n (.inl (.inr (.inr w)))
        · rcases q3 b w with w | w
          · exact n (.inr w)
          · exact n (.inl (.inr (.inl w)))⟩) (fun _ _ _ z => z) (fun b z w => (q3 b w).elim id fun w => absurd z (hd b w)) fun j hj => s3 j (.inr hj)
    obtain ⟨a1, a2, a3, a4⟩ := put_all r' e3 (fun b z w => o3 b z (.inl w)) fun b z => ⟨(hU b (.inr z)).1, fun w => (q3 b w).elim (hU b (.inr z)).2 fun w => hd b w z⟩
    refine ⟨a1, a2, fun b z => ?_, fun j hj => ⟨(a4 j hj).1.trans (s3 j hj).1, (a4 j hj).2.trans (s3 j hj).2⟩⟩
    rcases a3 b z with z | z
    · exact (p3 b z).imp id .inl
    · exact .inr (.inr z)
end

section
variable {X : Cx} {R0 : Addr → Prop} {M M' : List Mode} {xr : XR} {W : WX} {fr q qa qb qi qt qe : Bool} {fl fa fb fe : Fl} {σ : L2.St} {H H' H1 H2 : Hp} {ρ ρ1 ρ2 : Env} {g ga gb gc : Env → Out D} {e a b c : Expr} {pos : Pos}
/-- a row of values for names -/
structure RowOk (K : PySem.W.Frag) (R0 : Addr → Prop) (M : List Mode) (σ : L2.St) (H : Hp) (ρ : Env) (H' : Hp) (ρ' : Env) (is : List Nat) (ds : List D) (vs : List V) (U : Addr → Prop) : Prop where
  env : EnvOk K (fun b => R0 b ∨ U b) M σ H' ρ'
  frm : Frm M ρ σ H H'
  live : SameLive ρ ρ'
  new : ∀ b, U b → H b = none
  put : PutRs K (fun b => R0 b ∨ U b) M σ ρ' H' is ds vs U
def RestW (K : PySem.W.Frag) (R0 : Addr → Prop) (M : List Mode) (xr : XR) (W : WX) (is : List Nat) (σ : L2.St) (H : Hp) (ρ : Env) (Q : List V → Hp → Prop) (o : Out (List D)) : Prop := match o with
  | .ok ds ρ' => ∀ vs H' U, RowOk K R0 M σ H ρ H' ρ' is ds vs U → Q vs H'
  | .exc c p ρ' => ∀ cv dx H', EnvOk K R0 M σ H' ρ' → Frm M ρ σ H H' → SameLive ρ ρ' → xr R0 H' c p cv dx → W cv dx σ H'
  | .stuck => False
def tW (K : PySem.W.Frag) (M : List Mode) (xr : XR) (W : WX) (is : List Nat) (g : Env → Out (List D)) : TA := fun σ H Q => ∃ R0 ρ, EnvOk K R0 M σ H ρ ∧ RestW K R0 M xr W is σ H ρ Q (g ρ)
theorem w_nil : PA X [] (tW X.K M xr W [] fun ρ => .ok [] ρ) := PA.mono pa_nil fun σ H Q ⟨R0, ρ, env, h⟩ => h [] H NoA ⟨env.congr fun b => ⟨.inl, fun z => z.elim id False.elim⟩, .refl, .refl, fun b z => z.elim, .nil⟩
theorem w_cons {i : Nat} {is : List Nat} {es : List Expr} {gs : Env → Out (List D)} (hx : XrOk xr) (ha : ∀ R2, PE X e (tO X.K R2 M xr W qa fa ga)) (pa : ParOk M i qa fa ga) (hs : PA X es (tW X.K M xr W is gs)) (hst : starEach (e :: es) X.env = (false, eval e X.env) :: starEach es X.env) :
    PA X (e :: es) (tW X.K M xr W (i :: is) fun ρ => (ga ρ).bind fun x ρ => (gs ρ).bind fun xs ρ => .ok (x :: xs) ρ) := by
  have ha' : PE X e (fun σ H Q => ∃ R2, tO X.K R2 M xr W qa fa ga σ H Q) := ⟨fun pins s σ H Q I ⟨R2, h⟩ => (ha R2).run pins s σ H Q I h⟩
  refine PA.mono (pa_cons ha' hs hst) fun σ H Q ⟨R0, ρ, env, h⟩ => ⟨R0, ρ, env, ?_⟩
  dsimp only at h
  cases e1 : ga ρ with
  | stuck => rw [e1] at h; exact h.elim
  | exc c p ρ1 =>
    rw [e1] at h
    exact fun cv dx H1 m x => h cv dx H1 m.env m.frm m.live (hx _ _ _ _ _ _ _ (fun a z => .inl z) x)
  | ok d1 ρ1 =>
    rw [e1] at h
    dsimp only [Out.bind] at h
    intro v1 H1 m1 vo1
    obtain ⟨N1, en1, hn1, pr1⟩ := put_of (i := i) pa e1 env m1 vo1
    refine ⟨_, ρ1, en1, ?_⟩
    cases e2 : gs ρ1 with
    | stuck => rw [e2] at h; exact h.elim
    | exc c p ρ2 =>
      rw [e2] at h
      exact fun cv dx H2 e2 f2 l2 x => h cv dx H2 e2.lessR (m1.frm.trans m1.live f2) (m1.live.trans l2) (hx _ _ _ _ _ _ _ (fun a z => .inl z) x)
    | ok ds ρ2 =>
      rw [e2] at h
      dsimp only at h
      intro vs H2 U r
      have d1A : ∀ b, N1 b → ¬ OwnA M ρ1 σ b := fun b z w => env.domR (.inr (m1.live.ownA.mp w)) (hn1 b z).1
      have dU : ∀ b, N1 b → ¬ U b := fun b z w => en1.dom b (.inr z) (r.new b w)
      have eqv : ∀ b, ((R0 b ∨ N1 b) ∨ U b) ↔ (R0 b ∨ (N1 b ∨ U b)) := fun b => or_assoc
      have hf : (fun b => (R0 b ∨ N1 b) ∨ U b) = fun b => R0 b ∨ (N1 b ∨ U b) := by funext b; exact propext (eqv b)
      have put := r.put
      rw [hf] at put
      have pr1' : PutR X.K (fun b => R0 b ∨ (N1 b ∨ U b)) M σ ρ2 H2 i d1 v1 N1 := pr1.mono (fun b o z n => ⟨r.frm.keep b o z fun w => n (.inr w), fun w => by
          rcases w with (w | w | w) | w
          · exact n (.inl (.inl w))
          · exact n (.inl (.inr w))
          · rw [r.new b w] at z; cases z
          · exact n (.inr (r.live.ownA.mp w))⟩) (fun b o z e => r.frm.keep b o e (d1A b z)) (fun b z w => r.live.ownA.mp w) fun k _ => ⟨rfl, r.live.2 k⟩
      refine h (v1 :: vs) H2 (fun b => N1 b ∨ U b) ⟨r.env.congr eqv, m1.frm.trans m1.live r.frm, m1.live.trans r.live, fun b z => ?_, .cons pr1' put dU⟩
      rcases z with z | z
      · exact (hn1 b z).1
      · exact m1.was (r.new b z)
/-- the stores behind a row -/
theorem row_put {is : List Nat} {ds : List D} {vs : List V} {U : Addr → Prop} {K : PySem.W.Frag} (env : EnvOk K R0 M σ H ρ) (ow : OwnR R0 M ρ σ) (r : RowOk K R0 M σ H ρ H' ρ1 is ds vs U) : MvS K R0 M H σ ρ H' (setAll is vs σ) (putAll is ds ρ1) := by
  have ow1 : OwnR R0 M ρ1 σ := fun a z => ow a ((ownO_live r.live).mp z)
  obtain ⟨a1, a2, a3, a4⟩ := put_all r.put r.env ow1 fun b z => ⟨fun w => env.dom b w (r.new b z), fun w => env.domR (.inr (r.live.ownA.mp w)) (r.new b z)⟩
  refine ⟨a1, a2, r.frm.keep, r.frm.there, fun b z => ?_, fun j hj => ⟨(a4 j hj).1, (a4 j hj).2.trans (r.live.2 j)⟩⟩
  rcases a3 b z with z | z
  · exact .inl ((ownO_live r.live).mp z)
  · exact .inr (r.new b z)
theorem putRs_len {K : PySem.W.Frag} {P U : Addr → Prop} {is : List Nat} {ds : List D} {vs : List V} (r : PutRs K P M σ ρ H is ds vs U) : vs.length = is.length := by
  induction r with
  | nil => rfl
  | cons _ _ _ ih => simp [ih]
theorem row_t {is : List Nat} {gs : Env → Out (List D)} {Q : List V → Hp → Prop} {K : PySem.W.Frag} {D1 : Ends} (hx : XrOk xr) (h : tS K R0 M xr W fr (fun ρ => (gs ρ).toS fun ds ρ => .next (putAll is ds ρ)) D1 σ H) (hQ : ∀ (vs : List V) (H' : Hp), D1.nx (setAll is vs σ) H' → vs.length = is.length → Q vs H') : tW K M xr W is gs σ H Q := by
  obtain ⟨ρ, env, ow, h⟩ := h
  refine ⟨R0, ρ, env, ?_⟩
  dsimp only at h
  cases e1 : gs ρ with
  | stuck => rw [e1] at h; exact h.elim
  | exc c p ρ1 =>
    rw [e1] at h
    exact fun cv dx H1 e f l x => h cv dx σ H1 ⟨e, fun a z => ow a ((ownO_live l).mp z), f.keep, f.there, fun a z => .inl ((ownO_live l).mp z), fun k _ => ⟨rfl, l.2 k⟩⟩ x
  | ok ds ρ1 =>
    rw [e1] at h
    exact fun vs H' U r => hQ vs H' (h _ H' (row_put env ow r)) (putRs_len r.put)
theorem s_parN2 {i j : Nat} {x y : Str} {px py pt : Pos} {kt k2 pt2} {gs : Env → Out (List D)} (hx : XrOk xr) (hc : X.calm = true) (hN : X.N.Nodup) (hi : X.N[i]? = some x) (hj : X.N[j]? = some y) (hij : i ≠ j)
    (hlx : X.env.scope.names.lookup x = some .local) (hly : X.env.scope.names.lookup y = some .local) (ha : PA X [a, b] (tW X.K M xr W [i, j] gs))
    (hw : swappedStores [.Tuple [.Name x px, .Name y py] kt pt] (.Tuple [a, b] k2 pt2) X.env = pure (some [x, y]))
    (hs : swapsWithSole [.Tuple [.Name x px, .Name y py] kt pt] (.Tuple [a, b] k2 pt2) pos.line X.env = pure false) :
    PS X (.Assign [.Tuple [.Name x px, .Name y py] kt pt] (.Tuple [a, b] k2 pt2) pos) (tS X.K R0 M xr W fr fun ρ => (gs ρ).toS fun ds ρ => .next (putAll [i, j] ds ρ)) :=
  PS.mono (ps_par hc hN hi hj hij hlx hly ha hw hs) fun D σ H h => row_t hx h fun vs H' h hl => by
    match vs, hl with
    | [v, w], _ => exact ⟨v, w, rfl, h⟩
theorem s_parN3 {i j l : Nat} {x y z : Str} {px py pz pt : Pos} {kt k2 pt2} {gs : Env → Out (List D)} (hx : XrOk xr) (hc : X.calm = true) (hN : X.N.Nodup) (hi : X.N[i]? = some x) (hj : X.N[j]? = some y) (hl : X.N[l]? = some z) (hij : i ≠ j) (hil : i ≠ l) (hjl : j ≠ l)
    (hlx : X.env.scope.names.lookup x = some .local) (hly : X.env.scope.names.lookup y = some .local) (hlz : X.env.scope.names.lookup z = some .local) (ha : PA X [a, b, c] (tW X.K M xr W [i, j, l] gs))
    (hw : swappedStores [.Tuple [.Name x px, .Name y py, .Name z pz] kt pt] (.Tuple [a, b, c] k2 pt2) X.env = pure (some [x, y, z]))
    (hs : swapsWithSole [.Tuple [.Name x px, .Name y py, .Name z pz] kt pt] (.Tuple [a, b, c] k2 pt2) pos.line X.env = pure false) :
    PS X (.Assign [.Tuple [.Name x px, .Name y py, .Name z pz] kt pt] (.Tuple [a, b, c] k2 pt2) pos) (tS X.K R0 M xr W fr fun ρ => (gs ρ).toS fun ds ρ => .next (putAll [i, j, l] ds ρ)) :=
  PS.mono (ps_par3 hc hN hi hj hl hij hil hjl hlx hly hlz ha hw hs) fun D σ H h => row_t hx h fun vs H' h hl => by
    match vs, hl with
    | [u, v, w], _ => exact ⟨u, v, w, rfl, h⟩
/-! ### list(range(..)) -/
theorem rep_rg {K : PySem.W.Frag} {R : Addr → Prop} (i j : Int) : RepL K R H (rangeD i j) (rgV i j) := by
  unfold rangeD rgV
  generalize List.range (j - i).toNat = l
  induction l with
  | nil => exact .nil
  | cons x l ih => exact .cons (.int _) ih
theorem rg_ok {i j : Int} (h : -P62 ≤ i ∧ i < P62 ∧ -P62 ≤ j ∧ j < P62 ∧ j - i ≤ LIM) : RgOk i j ∧ (rangeD i j).length ≤ LIM := by
  obtain ⟨h1, h2, h3, h4, h5⟩ := h
  have e : (2 : Int) ^ 62 = P62 := by decide
  refine ⟨⟨by rw [e]; exact h1, by rw [e]; exact h2, by rw [e]; exact h3, by rw [e]; exact h4, ?_⟩, ?_⟩
  · have : (LIM : Int) = 16777216 := rfl
    omega
  · unfold rangeD
    rw [List.length_map, List.length_range]
    have : (LIM : Int) = 16777216 := rfl
    have : LIM = 16777216 := rfl
    omega
theorem x_listRg1 {p p2 pos pos2 : Pos} (hc : X.calm = true) (hg : Gl X "list") (hm : X.mg "list" = none) (hg2 : Gl X "range") (hm2 : X.mg "range" = none) (ha : PE X a (tO X.K R0 M xr W qa fa ga)) (hfl : fl ≠ .bor)
    (na : starEach [a] X.env = (false, eval a X.env) :: starEach [] X.env) (nb : starEach [.Call (.Name "range" p2) [a] [] pos2] X.env = (false, eval (.Call (.Name "range" p2) [a] [] pos2) X.env) :: starEach [] X.env) :
    PE X (.Call (.Name "list" p) [.Call (.Name "range" p2) [a] [] pos2] [] pos) (tO X.K R0 M xr W qa fl fun ρ => (ga ρ).bind fun x ρ => lift (opRng [x]) ρ) :=
  PE.monoK (pe_listRg hc hg hm (prg_1 hg2 hm2 ha na) nb) fun σ H Q ⟨ρ, env, h⟩ => by
    refine one env h fun x ρ1 xv H1 m vo h1 => ?_
    obtain ⟨d, e, k⟩ := Rest.lift h1
    obtain ⟨j, ej, h3, rfl⟩ := opRng1 e rfl
    cases ej
    cases (show Rep X.K _ H1 (.int j) xv from vo.toBor)
    obtain ⟨ok, hz⟩ := rg_ok (i := 0) (j := j) ⟨by decide, by decide, h3.1, h3.2.1, by rw [Int.sub_zero]; exact h3.2.2⟩
    exact ⟨j, rfl, ok, fun l hl kf => k _ _ (m.new hl kf) (VOk.newLst hfl hl (m.was hl) (fun a z => env.domR z) (rep_rg 0 j) hz)⟩
theorem x_listRg2 {p p2 pos pos2 : Pos} (hc : X.calm = true) (hg : Gl X "list") (hm : X.mg "list" = none) (hg2 : Gl X "range") (hm2 : X.mg "range" = none) (ha : PE X a (tO X.K R0 M xr W qa fa ga)) (hb : PE X b (tO X.K R0 M xr W qb fb gb)) (hq : fa = .bor → qb = true) (hfl : fl ≠ .bor)
    (na : starEach [a, b] X.env = (false, eval a X.env) :: starEach [b] X.env) (na2 : starEach [b] X.env = (false, eval b X.env) :: starEach [] X.env) (hp : (backTo pos2 (starEach [b] X.env)).any (·.1) = false) (nb : starEach [.Call (.Name "range" p2) [a, b] [] pos2] X.env = (false, eval (.Call (.Name "range" p2) [a, b] [] pos2) X.env) :: starEach [] X.env) :
    PE X (.Call (.Name "list" p) [.Call (.Name "range" p2) [a, b] [] pos2] [] pos) (tO X.K R0 M xr W (qa && qb) fl fun ρ => (ga ρ).bind fun x ρ => (gb ρ).bind fun y ρ => lift (opRng [x, y]) ρ) :=
  PE.monoK (pe_listRg hc hg hm (prg_2 hg2 hm2 ha hb na na2 hp) nb) fun σ H Q ⟨ρ, env, h⟩ => by
    refine two env h hq fun da db ρ2 x y H1 H2 m v1 _ v2 hR h1 => ?_
    obtain ⟨d, e, k⟩ := Rest.lift h1
    obtain ⟨i, j, ej, h3, rfl⟩ := opRng2 e rfl
    cases ej
    cases (show Rep X.K _ H2 (.int i) x from v1)
    cases (show Rep X.K _ H2 (.int j) y from v2.toBor)
    obtain ⟨ok, hz⟩ := rg_ok (i := i) (j := j) h3
    exact ⟨i, j, rfl, rfl, ok, fun l hl kf => k _ _ (m.new hl kf) (VOk.newLst hfl hl (m.was hl) (fun a z => env.domR z) (rep_rg i j) hz)⟩
end
end Ev
end -- EvS6

section -- EvC
set_option Elab.async false
set_option linter.all false
set_option maxRecDepth 100000
set_option maxHeartbeats 1000000
/-! EvC: from the program's syntax to the small one. -/
namespace Ev
open PySem

structure FnE where
  name : Str
  ix : Nat
  ms : List PM
  fresh : Bool
/-- what is known where a text stands -/
structure Ck where
  N : List Str
  M : List Mode
  sc : Scope
  blk : Option Scope
  fresh : Bool
  fns : List FnE
  gs : List (Str × D)

def ixOf (x : Str) : List Str → Nat → Option Nat
  | [], _ => none
  | y :: ys, k => if y = x then some k else ixOf x ys (k + 1)
def Ck.vis (C : Ck) (x : Str) : Bool := (C.sc.names.lookup x = some .local || C.sc.names.lookup x = some .cell || C.sc.names.lookup x = some .free) && !(x == ("__debug__" : Str)) && !(x == ("__classdict__" : Str))
def Ck.gl (C : Ck) (x : Str) : Bool := decide (C.sc.names.lookup x = some .globalImplicit) && !(x == ("__debug__" : Str)) && !(x == ("__name__" : Str))
def Ck.loc (C : Ck) (x : Str) : Bool := decide (C.sc.names.lookup x = some .local) || decide (C.sc.names.lookup x = some .cell)
def Ck.st (C : Ck) (x : Str) : Bool := C.loc x && (match C.blk with
  | none => true
  | some s => decide (s.names.lookup x = some .cell) || decide (C.sc.names.lookup x = some .local))
def Ck.slot (C : Ck) (x : Str) : Option Nat := if C.vis x then ixOf x C.N 0 else none
def Ck.fnOf (C : Ck) (x : Str) : Option FnE := if C.gl x then C.fns.find? fun f => decide (f.name = x) else none
/-- a name whose list is held or only read -/
def Ck.bv (C : Ck) : Expr → Option Nat
  | .Name x _ => (C.slot x).bind fun i => if md C.M i = .shr then none else some i
  | _ => none

def conD : Const → Option D
  | .none => some .non
  | .bool b => some (.bl b)
  | .int i => some (.int i)
  | .str s => if s.cps.toList.length ≤ LIM ∧ s.cps.toList.all (fun c => decide (c < 1114112)) then some (.str s.cps.toList) else none
  | _ => none
def binK : Operator → Option BinK
  | .Add => some .add
  | .Sub => some .sub
  | .Mult => some .mul
  | .FloorDiv => some .fdiv
  | .Mod => some .mod
  | .Pow => some .pow
  | _ => none
def cmpK : CmpOp → CmpK
  | .Eq => .eq
  | .NotEq => .ne
  | .Lt => .lt
  | .LtE => .le
  | .Gt => .gt
  | .GtE => .ge
  | .Is => .is_
  | .IsNot => .isnot
  | .In => .in_
  | .NotIn => .notin
def notSet : Expr → Bool
  | .Set .. => false
  | _ => true
def notSlice : Expr → Bool
  | .Slice .. => false
  | _ => true
def notStar : Expr → Bool
  | .Starred .. => false
  | _ => true
def notComp : Expr → Bool
  | .ListComp .. => false
  | .SetComp .. => false
  | .DictComp .. => false
  | _ => true
/-- a base of a method that is not super() -/
def baseOk : Expr → Bool
  | .Call (.Name x _) [] [] _ => x != ("super" : Str)
  | _ => true
/-- range(..) alone -/
def rngArg : List Expr → Option (List Expr)
  | [.Call (.Name x _) args [] _] => if x = ("range" : Str) ∧ (args.length = 1 ∨ args.length = 2) then some args else none
  | _ => none
def plainTest : Expr → Bool
  | .Name .. => true
  | .Call .. => true
  | .Subscript .. => true
  | .Constant .. => true
  | .List .. => true
  | .Tuple .. => true
  | .BinOp .. => true
  | .ListComp .. => true
  | _ => false
inductive BKind where
  | blt (b : BI) | ty (b : BI)
/-- the built-ins by name, and how many arguments -/
def bltOf (x : Str) (n : Nat) : Option BKind :=
  if x = ("len" : Str) then (if n = 1 then some (.blt .len) else none)
  else if x = ("tuple" : Str) then (if n = 1 then some (.ty .tuple) else none)
  else if x = ("list" : Str) then (if n = 1 then some (.ty .list) else none)
  else if x = ("sorted" : Str) then (if n = 1 then some (.blt .sorted) else none)
  else if x = ("all" : Str) then (if n = 1 then some (.blt .all) else none)
  else if x = ("any" : Str) then (if n = 1 then some (.blt .any) else none)
  else if x = ("sum" : Str) then (if n = 1 then some (.blt .sum) else none)
  else if x = ("min" : Str) then (if n = 2 then some (.blt .min2) else none)
  else if x = ("max" : Str) then (if n = 2 then some (.blt .max2) else none)
  else if x = ("abs" : Str) then (if n = 1 then some (.blt .abs) else none)
  else if x = ("int" : Str) then (if n = 1 then some (.ty .int) else none)
  else if x = ("ord" : Str) then (if n = 1 then some (.blt .ord) else none)
  else none
def tyOf (x : Str) : Option TyK :=
  if x = ("int" : Str) then some .int else if x = ("bool" : Str) then some .bool else if x = ("str" : Str) then some .str
  else if x = ("tuple" : Str) then some .tuple else if x = ("list" : Str) then some .list else if x = ("dict" : Str) then some .dict else none
/-- code, made anew?, quiet? -/
abbrev RE := E × Bool × Bool
/-- .. in a place that only reads -/
abbrev RR := E × Fl × Bool
def upR (r : RE) : RR := (r.1, if r.2.1 then .fresh else .shr, r.2.2)
section
variable (f : Expr → Option RE)
/-- where it is only read -/
def compR (C : Ck) (e : Expr) : Option RR := match C.bv e with
  | some i => some (.bvar i, .bor, true)
  | none => (f e).map upR
/-- a row of values -/
def compL : List Expr → Option (List E × Bool)
  | [] => some ([], true)
  | e :: es => if notStar e then (f e).bind fun r => (compL es).map fun s => (r.1 :: s.1, r.2.2 && s.2) else none
/-- a row that is only read -/
def compRs (C : Ck) : List Expr → Option (List E × Bool)
  | [] => some ([], true)
  | e :: es => if notStar e then (compR f C e).bind fun r => (compRs C es).bind fun s => if r.2.1 = .bor → s.2 = true then some (r.1 :: s.1, r.2.2 && s.2) else none else none
/-- a row of arguments -/
def compA (C : Ck) : List Expr → Option (List E × Bool)
  | [] => some ([], true)
  | e :: es => if notStar e then (compR f C e).bind fun r => (compA C es).bind fun s => if isBv r.1 = decide (r.2.1 = .bor) then some (r.1 :: s.1, r.2.2 && s.2) else none else none
/-- the parts of and, or -/
def compBs : List Expr → Option (List E × Bool)
  | [] => none
  | [e] => (f e).map fun r => ([r.1], r.2.2)
  | e :: es => (f e).bind fun r => (compBs es).map fun s => (r.1 :: s.1, r.2.2 && s.2)
end
/-- a test -/
def compT (f : Expr → Option RE) (C : Ck) : Nat → Expr → Option (E × Bool)
  | 0, _ => none
  | n + 1, .UnaryOp .Not a _ => (compT f C n a).map fun r => (.not_ r.1, r.2)
  | n + 1, .BoolOp .And vs _ => (compTs (compT f C n) vs).map fun r => (.andL r.1, r.2)
  | n + 1, .BoolOp .Or vs _ => (compTs (compT f C n) vs).map fun r => (.orL r.1, r.2)
  | _ + 1, .Compare a [op] [b] _ => (compR f C a).bind fun ra => (compR f C b).bind fun rb => if (ra.2.1 = .bor → rb.2.2 = true) ∧ notSet b = true then some (.cmp (cmpK op) ra.1 rb.1, ra.2.2 && rb.2.2) else none
  | _ + 1, .Compare a [op, op'] [b, c] _ => (compR f C a).bind fun ra => (compR f C b).bind fun rb => (compR f C c).bind fun rc =>
    if (ra.2.1 = .bor → rb.2.2 = true) ∧ (rb.2.1 = .bor → rc.2.2 = true) ∧ notSet c = true then some (.chain (cmpK op) (cmpK op') ra.1 rb.1 rc.1, ra.2.2 && rb.2.2 && rc.2.2) else none
  | _ + 1, e => if plainTest e then (compR f C e).map fun r => (r.1, r.2.2) else none
where compTs (t : Expr → Option (E × Bool)) : List Expr → Option (List E × Bool)
  | [] => none
  | [e] => (t e).map fun r => ([r.1], r.2)
  | e :: es => (t e).bind fun r => (compTs t es).map fun s => (r.1 :: s.1, r.2 && s.2)
/-- a target of names that are values -/
def compTg (C : Ck) : Nat → Expr → Option T
  | _ + 1, .Name x _ => (C.slot x).bind fun i => if C.st x && decide (md C.M i = .shr) then some (.name i) else none
  | n + 1, .Tuple es _ _ => (compTgs (compTg C n) es).map .tup
  | _, _ => none
where compTgs (g : Expr → Option T) : List Expr → Option (List T)
  | [] => some []
  | e :: es => if notStar e then (g e).bind fun t => (compTgs g es).map (t :: ·) else none
def relabS (scope sc : Scope) : Scope := { scope with names := scope.names.map fun (n, k) => if (k == .free && sc.kind == .function && sc.names.lookup n == some .cell) then (n, .cell) else (n, k) }
/-- the own names of a block, by slots -/
def ownOf (C : Ck) (scope : Scope) : Option (List (Str × Nat)) :=
  scope.names.foldr (fun y r => r.bind fun r => match y.2 with
    | .local => if y.1 = (".0" : Str) then some r else (ixOf y.1 C.N 0).map fun i => (y.1, i) :: r
    | .cell => (ixOf y.1 C.N 0).map fun i => (y.1, i) :: r
    | _ => some r) (some [])
/-- what is walked: its code, its modes within, quiet? -/
def compI (f : Expr → Option RE) (C : Ck) : Expr → Option (E × List Mode × Bool)
  | .Call (.Name x p) args [] pos => if x = ("range" : Str) then (if C.gl x && (args.length == 1 || args.length == 2) then (compL f args).map fun r => (.rng r.1, C.M, r.2) else none)
      else (f (.Call (.Name x p) args [] pos)).map fun r => (r.1, C.M, r.2.2)
  | e => match C.bv e with
    | some i => some (.bvar i, borM C.M i, true)
    | none => if notSet e then (f e).map fun r => (r.1, C.M, r.2.2) else none
/-- the tests of a comprehension: none or one -/
def compFs (t : Expr → Option (E × Bool)) : List Expr → Option (List E × Bool)
  | [] => some ([], true)
  | [c] => (t c).map fun r => ([r.1], r.2)
  | _ => none
/-- a value goes into the i-th name -/
def intoB (C : Ck) (i : Nat) (c : E) (ok : Bool) : Option S := match md C.M i with
  | .shr => some (.asg (.name i) c)
  | .own => if ok then some (.asgO i c) else none
  | _ => none
/-- a comprehension: its code, quiet? -/
def compC (f : Ck → Expr → Option RE) (n : Nat) (C : Ck) (elt tg iter : Expr) (ifs : List Expr) (scope : Scope) : Option (E × Bool) :=
  if notSet iter then
    (compI (f C) C iter).bind fun ri => (ownOf C scope).bind fun own =>
      let C' : Ck := { C with M := ri.2.1, sc := relabS scope C.sc, blk := some scope }
      (compTg C' n tg).bind fun t => (compFs (compT (f C') C' n) ifs).bind fun ts => (f C' elt).bind fun re =>
          if L2.blkC C.N C.sc scope own && (own.all fun p => decide (md C.M p.2 = .shr)) && ((varsT t).all fun i => (own.map (·.2)).contains i) then some (.comp re.1 t ri.1 ts.1 (own.map (·.2)), ri.2.2 && (ts.2 && re.2.2)) else none
  else none
def methOf (x : Str) : Option MK := if x = ("find" : Str) then some .find else if x = ("join" : Str) then some .join else none
/-- a value -/
def compE : Nat → Ck → Expr → Option RE
  | 0, _, _ => none
  | n + 1, C, e => match e with
    | .Constant c _ _ => (conD c).map fun d => (.con d, true, true)
    | .Name x _ => match C.slot x with
      | some i => if md C.M i = .shr then some (.var i, false, true) else none
      | none => if C.gl x then ((C.gs.find? fun g => decide (g.1 = x)).bind fun g => if isMut g.2 then none else some (.glob g.2, true, true)) else none
    | .BinOp a op b _ => (binK op).bind fun k => (compR (compE n C) C a).bind fun ra => (compR (compE n C) C b).bind fun rb => if ra.2.1 = .bor → rb.2.2 = true then some (.bin k ra.1 rb.1, true, ra.2.2 && rb.2.2) else none
    | .UnaryOp .Not a _ => (compR (compE n C) C a).map fun r => (.not_ r.1, true, r.2.2)
    | .UnaryOp .USub a _ => (compE n C a).map fun r => (.neg r.1, true, r.2.2)
    | .BoolOp .And vs _ => (compBs (compE n C) vs).map fun r => (.andL r.1, false, r.2)
    | .BoolOp .Or vs _ => (compBs (compE n C) vs).map fun r => (.orL r.1, false, r.2)
    | .IfExp c a b _ => (compT (compE n C) C n c).bind fun rc => (compE n C a).bind fun ra => (compE n C b).map fun rb => (.ite rc.1 ra.1 rb.1, ra.2.1 && rb.2.1, rc.2 && ra.2.2 && rb.2.2)
    | .Compare a [op] [b] _ => (compR (compE n C) C a).bind fun ra => (compR (compE n C) C b).bind fun rb => if (ra.2.1 = .bor → rb.2.2 = true) ∧ notSet b = true then some (.cmp (cmpK op) ra.1 rb.1, true, ra.2.2 && rb.2.2) else none
    | .Compare a [op, op'] [b, c] _ => (compR (compE n C) C a).bind fun ra => (compR (compE n C) C b).bind fun rb => (compR (compE n C) C c).bind fun rc =>
      if (ra.2.1 = .bor → rb.2.2 = true) ∧ (rb.2.1 = .bor → rc.2.2 = true) ∧ notSet c = true then some (.chain (cmpK op) (cmpK op') ra.1 rb.1 rc.1, true, ra.2.2 && rb.2.2 && rc.2.2) else none
    | .Tuple es _ _ => if es.length ≤ 1000 then (compL (compE n C) es).map fun r => (.tup r.1, true, r.2) else none
    | .List es _ => if es.length ≤ 1000 then (compL (compE n C) es).map fun r => (.lst r.1, true, r.2) else none
    | .Subscript a (.Slice none none (some (.UnaryOp .USub (.Constant (.int 1) _ _) _)) _) _ => (compR (compE n C) C a).map fun r => (.rev r.1, true, r.2.2)
    | .Subscript a (.Slice lo hi none _) _ => (compR (compE n C) C a).bind fun ra => (compP (compE n C) lo).bind fun rl => (compP (compE n C) hi).bind fun rh =>
      if (ra.2.1 = .bor → (rl.2 && rh.2) = true) then some (.slice ra.1 rl.1 rh.1, true, ra.2.2 && rl.2 && rh.2) else none
    | .Subscript a b _ => if notSlice b then (compR (compE n C) C a).bind fun ra => (compR (compE n C) C b).bind fun rb => if ra.2.1 = .bor → rb.2.2 = true then some (.sub ra.1 rb.1, false, ra.2.2 && rb.2.2) else none else none
    | .Call (.Name x _) args [] _ => match C.fnOf x with
      | some fe => (compA (compE n C) C args).bind fun r => if argsFit C.M fe.ms r.1 then some (.call fe.ix fe.ms r.1, fe.fresh, r.2 && !fe.ms.contains .io) else none
      | none => if C.gl x then (if x = ("isinstance" : Str) then (match args with
          | [a, .Name t _] => (tyOf t).bind fun k => if C.gl t && notStar a then (compR (compE n C) C a).map fun r => (.isinst r.1 k, true, r.2.2) else none
          | _ => none)
        else if x = ("list" : Str) ∧ C.gl ("range" : Str) = true ∧ (rngArg args).isSome = true then (rngArg args).bind fun rs => (compRs (compE n C) C rs).map fun r => (.bi .list [.rng r.1], true, r.2)
        else match bltOf x args.length with
          | some (.blt b) => (compRs (compE n C) C args).map fun r => (.bi b r.1, true, r.2)
          | some (.ty b) => (compRs (compE n C) C args).map fun r => (.bi b r.1, true, r.2)
          | none => none) else none
    | .Call (.Attribute o x ap) [a] [] cp => if baseOk o && notStar a && (ap.endLine == cp.line) then (methOf x).bind fun m =>
        (compR (compE n C) C o).bind fun ro => (compR (compE n C) C a).map fun ra => (.meth m ro.1 [ra.1], true, ro.2.2 && ra.2.2) else none
    | .ListComp elt [⟨tg, iter, ifs, 0⟩] scope _ => (compC (compE n) n C elt tg iter ifs scope).map fun r => (r.1, true, r.2)
    | _ => none
where compP (f : Expr → Option RE) : Option Expr → Option (E × Bool)
  | none => some (.con .non, true)
  | some e => (f e).bind fun r => match r.1 with
    | .con .non => none
    | _ => some (r.1, r.2.2)

/-! ### statements -/
def swB (C : Ck) (x : Str) (px : Pos) (scope : Scope) (cpos : Pos) : Bool := decide (C.sc.kind = .function) && decide (C.sc.names.lookup x = some .local) && (px.line == cpos.line) && !(scope.names.any fun (n, k) => n == x && (k == .local || k == .cell))
/-- names stored at once -/
def parNames : List Expr → Option (List (Str × Pos))
  | [.Name x px, .Name y py] => some [(x, px), (y, py)]
  | [.Name x px, .Name y py, .Name z pz] => some [(x, px), (y, py), (z, pz)]
  | _ => none
/-- not all of them are plain local names of one line -/
def notAll (C : Ck) (ts : List Expr) : Bool :=
  (ts.filterMap fun
    | .Name id pos => if C.sc.names.lookup id == some .local && pos.line == (ts.head?.map (·.pos.line)).getD 0 then some id else none
    | _ => none).length != ts.length
def parB (C : Ck) (ns : List (Str × Pos)) (vs : List Expr) : Bool :=
  decide (C.sc.kind = .function) && decide (vs.length = ns.length) && (ns.all fun n => decide (C.sc.names.lookup n.1 = some .local) && (n.2.line == ((ns.head?.map (·.2.line)).getD 0))) && decide ((ns.map (·.1)).Nodup) && vs.all notStar && !(vs.all (foldedForSure 8)) && !(vs.all (constantsAlone 8))
/-- a value that waits for a name of that mode -/
def fitM (C : Ck) (i : Nat) (r : RE) : Bool := match md C.M i with
  | .shr => true
  | .own => r.2.1 && r.2.2 && (match r.1 with
    | .lst _ => true
    | .comp .. => true
    | _ => false)
  | _ => false
def compSl (C : Ck) : List Str → Option (List Nat)
  | [] => some []
  | x :: xs => (C.slot x).bind fun i => (compSl C xs).map (i :: ·)
def compW (f : Expr → Option RE) (C : Ck) : List Nat → List Expr → Option (List E)
  | [], [] => some []
  | i :: is, e :: es => if notStar e then (f e).bind fun r => if fitM C i r then (compW f C is es).map (r.1 :: ·) else none else none
  | _, _ => none
def augK : Operator → Option BinK
  | .Add => some .add
  | .Sub => some .sub
  | _ => none
def docOnly : Expr → Bool
  | .Constant (.str _) _ _ => true
  | _ => false
def compS : Nat → Ck → Stmt → Option S
  | 0, _, _ => none
  | n + 1, C, s => match s with
    | .Return none _ => some .retN
    | .Return (some e) _ => match C.bv e with
      | some i => if md C.M i = .own then some (.retM i) else none
      | none => (compE n C e).bind fun r => if C.fresh = true → r.2.1 = true then some (.ret r.1) else none
    | .If c a b _ => (compT (compE n C) C n c).bind fun rc => (compSs (compS n C) a).bind fun sa => (compSs (compS n C) b).map fun sb => .ite rc.1 sa sb
    | .While c a [] _ => (compT (compE n C) C n c).bind fun rc => (compSs (compS n C) a).map fun sa => .whil rc.1 sa
    | .For tg iter body [] _ => if notSet iter then (compI (compE n C) C iter).bind fun ri =>
        (compTg { C with M := ri.2.1 } n tg).bind fun t => (compSs (compS n { C with M := ri.2.1 }) body).map fun sb => .for_ t ri.1 sb else none
    | .Pass _ => some .pass
    | .Break _ => some .brk
    | .Continue _ => some .cont
    | .Assign [.Name x px] v spos => (C.slot x).bind fun i => if C.st x then (match C.bv v with
        | some j => if md C.M j = .own ∧ (md C.M i = .own ∨ md C.M i = .shr) then some (.asgM i j) else none
        | none => (compE n C v).bind fun r => intoB C i r.1 (r.2.1 && r.2.2)) else none
    | .Assign [.Tuple ts kt pt] (.Tuple vs k2 p2) spos =>
      if vs.all (foldedForSure 8) || !(ts.length == 2 || ts.length == 3) || notAll C ts then (compE n C (.Tuple vs k2 p2)).bind fun r => (compTg C n (.Tuple ts kt pt)).map fun t => .asg t r.1
      else (parNames ts).bind fun ns => if parB C ns vs then (compSl C (ns.map (·.1))).bind fun is => (compW (compE n C) C is vs).map fun cs => .par is cs else none
    | .Assign [.Tuple ts kt pt] v spos => if notComp v then (compE n C v).bind fun r => (compTg C n (.Tuple ts kt pt)).map fun t => .asg t r.1 else none
    | .Assign [.Subscript (.Name x px) k tp] v spos => if notSlice k && notStar k && notComp v then (C.bv (.Name x px)).bind fun i => if (md C.M i).isOwn then (compE n C v).bind fun r => (compR (compE n C) C k).map fun rk => .setI i rk.1 r.1 else none else none
    | .AugAssign (.Name x px) op v spos => (augK op).bind fun k => (C.slot x).bind fun i => if C.st x && decide (md C.M i = Mode.shr) then (compE n C v).map fun (r : RE) => .aug i k r.1 else none
    | .Expr (.Call (.Attribute (.Name x px) m ap) [a] [] cp) spos => if m = ("append" : Str) && notStar a && (ap.endLine == cp.line) then (C.bv (.Name x px)).bind fun i => if (md C.M i).isOwn then (compE n C a).map fun r => .append i r.1 else none
      else none
    | .Expr e spos => if docOnly e then some .pass else if notComp e then (compE n C e).map fun r => .expr r.1 else none
    | _ => none
where compSs (f : Stmt → Option S) : List Stmt → Option (List S)
  | [] => some []
  | s :: ss => (f s).bind fun a => (compSs f ss).map (a :: ·)
end Ev
end -- EvC

section -- EvD1
set_option Elab.async false
set_option linter.all false
set_option maxRecDepth 100000
set_option maxHeartbeats 1000000
/-! EvD1: what is known of a place; the small side conditions. -/
namespace Ev
open PySem PySem.Spec PyProof.Rows L2

def bltNames : List Str := ["len", "tuple", "list", "sorted", "all", "any", "sum", "min", "max", "abs", "int", "ord", "range", "isinstance", "bool", "str", "dict"]
structure CtxOk (cf : CF) (xr : XR) (C : Ck) (X : Cx) (W : WX) : Prop where
  N : X.N = C.N
  nd : C.N.Nodup
  sc : X.env.scope = C.sc
  kind : C.sc.kind = .function
  calm : X.calm = true
  st : ∀ x, C.st x = true → X.fn x = true ∨ C.sc.names.lookup x = some .local
  tk : Takes X W
  hu : X.A.units + 200 < cLine
  xo : XrOk xr
  fns : ∀ fe ∈ C.fns, ∃ (k : Nat) (f : Addr) (fd : FuncData) (ps : List Str), FnOk X.prog X.w X.K X.mg X.base (L2.CX X.prog X.w) k f fd ps (spF X.K xr fe.ms fe.fresh (cf fe.ix)) ∧ Room k X.A ∧ X.mg fe.name = some (.ref f) ∧ PySem.W.keepIn X.K (.ref f) = true ∧ Binds X.K fd ps []
  gs : ∀ g ∈ C.gs, isMut g.2 = false → ∃ (v : V) (u : Value), X.mg g.1 = some u ∧ L2.RelV v u ∧ ∀ R H, Rep X.K R H g.2 v
  blt : ∀ x ∈ bltNames, X.mg x = none
section
variable {cf : CF} {xr : XR} {C : Ck} {X : Cx} {W : WX} {R0 : Addr → Prop}
theorem ixOf_some {x : Str} : ∀ {N : List Str} {k i : Nat}, ixOf x N k = some i → k ≤ i ∧ N[i - k]? = some x
  | [], _, _, h => by cases h
  | y :: ys, k, i, h => by
    unfold ixOf at h
    by_cases e : y = x
    · rw [if_pos e] at h; cases h; subst e; exact ⟨Nat.le_refl _, by simp⟩
    · rw [if_neg e] at h
      obtain ⟨h1, h2⟩ := ixOf_some h
      refine ⟨by omega, ?_⟩
      have : i - k = (i - (k + 1)) + 1 := by omega
      rw [this, List.getElem?_cons_succ]; exact h2
theorem ixOf_get {x : Str} {N : List Str} {i : Nat} (h : ixOf x N 0 = some i) : N[i]? = some x := by
  have := (ixOf_some h).2
  rwa [Nat.sub_zero] at this
theorem slot_ok (c : CtxOk cf xr C X W) {x : Str} {i : Nat} (h : C.slot x = some i) : X.N[i]? = some x ∧ Vis X.env.scope x ∧ (x == ("__debug__" : Str)) = false ∧ (x == ("__classdict__" : Str)) = false := by
  unfold Ck.slot at h
  split at h
  · rename_i hv
    unfold Ck.vis at hv
    simp only [Bool.and_eq_true, Bool.or_eq_true, decide_eq_true_eq, Bool.not_eq_true'] at hv
    refine ⟨by rw [c.N]; exact ixOf_get h, ?_, hv.1.2, hv.2⟩
    rw [c.sc]
    rcases hv.1.1 with (z | z) | z
    · exact .inl z
    · exact .inr (.inl z)
    · exact .inr (.inr z)
  · cases h
theorem slot_pe (c : CtxOk cf xr C X W) {x : Str} {i : Nat} {p : Pos} (h : C.slot x = some i) : PE X (.Name x p) (tVar i) := by
  obtain ⟨h1, h2, h3, h4⟩ := slot_ok c h
  exact pe_var h1 h2 h3 h4
theorem bv_ok (c : CtxOk cf xr C X W) {e : Expr} {i : Nat} (h : C.bv e = some i) : (∃ x p, e = .Name x p ∧ C.slot x = some i) ∧ PE X e (tVar i) ∧ md C.M i ≠ .shr := by
  cases e with
  | Name x p =>
    obtain ⟨j, h1, h2⟩ := Option.bind_eq_some_iff.mp (show (C.slot x).bind (fun i => if md C.M i = .shr then none else some i) = some i from h)
    split at h2
    · cases h2
    · rename_i hn
      cases h2
      exact ⟨⟨x, p, rfl, h1⟩, slot_pe c h1, hn⟩
  | _ => cases h
theorem gl_ok (c : CtxOk cf xr C X W) {x : Str} (h : C.gl x = true) : Gl X x ∧ (x == ("__debug__" : Str)) = false ∧ x ≠ ("__name__" : Str) := by
  unfold Ck.gl at h
  simp only [Bool.and_eq_true, decide_eq_true_eq, Bool.not_eq_true'] at h
  refine ⟨?_, h.1.2, fun e => ?_⟩
  · show X.env.scope.names.lookup x = _
    rw [c.sc]; exact h.1.1
  · rw [e] at h; exact absurd h.2 (by decide +kernel)
theorem st_ok (c : CtxOk cf xr C X W) {x : Str} (h : C.st x = true) : Loc X.env.scope x ∧ (X.fn x = true ∨ X.env.scope.names.lookup x = some .local) := by
  have h2 := c.st x h
  unfold Ck.st Ck.loc at h
  simp only [Bool.and_eq_true, Bool.or_eq_true, decide_eq_true_eq] at h
  rw [c.sc]
  exact ⟨h.1, h2⟩
theorem relab_eq (c : CtxOk cf xr C X W) (scope : Scope) : relabel scope X.env = relabS scope C.sc := by
  unfold relabel relabS Env.kindOf
  rw [c.sc]
theorem CtxOk.blk (c : CtxOk cf xr C X W) {M' : List Mode} {scope : Scope} (hk : scope.kind = .function) (s : Shared) (H : Hp) (Cd : Addr) (cl : List (Str × Addr)) (fp : List Addr) :
    CtxOk cf xr { C with M := M', sc := relabS scope C.sc, blk := some scope } (X.blk s H scope (compEnvC scope cl Cd X.env) fp) WF := by
  refine ⟨c.N, c.nd, relab_eq c scope, hk, c.calm, fun x h => ?_, takes0, c.hu, c.xo, c.fns, c.gs, c.blt⟩
  unfold Ck.st at h
  simp only [Bool.and_eq_true, Bool.or_eq_true, decide_eq_true_eq] at h
  rcases h.2 with z | z
  · exact .inl (show (scope.names.lookup x == some .cell) = true by rw [z]; decide)
  · exact .inr z
end
/-! ### small conditions -/
section
variable {env : PySem.Env}
theorem star_ok {e : Expr} {es : List Expr} (h : notStar e = true) : starEach (e :: es) env = (false, eval e env) :: starEach es env := by
  cases e <;> first | rfl | (cases h)
theorem back_any {pos : Pos} : ∀ {es : List Expr}, es.all notStar = true → (backTo pos (starEach es env)).any (·.1) = false
  | [], _ => rfl
  | e :: es, h => by
    rw [List.all_cons, Bool.and_eq_true] at h
    rw [star_ok h.1]
    have ih := back_any (pos := pos) h.2
    unfold backTo at ih ⊢
    simp at ih ⊢
    exact ih
theorem few_ok {e : Expr} {cpos : Pos} (h : notStar e = true) : ((backTo cpos (starEach [e] env)).all (fun x => !x.1) && (backToKw cpos (keywordEach [] env)).all (fun x => x.1.isSome) && decide (([e] : List Expr).length + ([] : List Keyword).length + (if ([] : List Keyword).isEmpty then 0 else 1) < 30)) = true := by
  rw [star_ok h]; rfl
theorem base_ok {o : Expr} {name : Str} (h : baseOk o = true) : attributeBase o name env (eval o env) = eval o env := by
  cases o with
  | Call f args kws p =>
    cases f with
    | Name x q =>
      cases args with
      | cons _ _ => rfl
      | nil =>
        cases kws with
        | cons _ _ => rfl
        | nil =>
          have hx : (x != ("super" : Str)) = true := h
          unfold attributeBase
          simp only [hx, Bool.true_or, if_true]
    | _ => rfl
  | _ => rfl
theorem ix_ok {b : Expr} (h : notSlice b = true) : PlainIx b := by
  intro o i
  cases b <;> first | rfl | (cases h)
theorem mark_ok {op : CmpOp} {b : Expr} (h : notSet b = true) : behindInMarks op b = false := by
  cases b <;> first | rfl | (cases h)
theorem mark2_ok {op op' : CmpOp} {b c : Expr} (h : notSet c = true) : lastMarks [op, op'] [b, c] = false := by
  cases c <;> first | rfl | (cases h)
theorem fold_ok {e : Expr} (h : notSet e = true) : ∀ x, foldedSetIterable e env x = pure x := by
  intro x
  cases e <;> first | rfl | (cases h)
theorem plain_ok {e : Expr} (h : plainTest e = true) : ∀ whole, isTrue e env whole = (do let v ← whole; standAt e.pos; holding [v] (truthy v)) := by
  intro w
  cases e <;> first | rfl | (cases h)
theorem sw_no {e : Expr} {t : Option Expr} {l : Nat} (h : notComp e = true) : swapsWith e t l env = pure false := by
  cases e <;> first | rfl | (cases h)
end
end Ev
end -- EvD1

section -- EvD2
set_option Elab.async false
set_option linter.all false
set_option maxRecDepth 100000
set_option maxHeartbeats 1000000
/-! EvD2: the compiled code is what the expression does: rows, tests. -/
namespace Ev
open PySem PySem.Spec PyProof.Rows L2
abbrev fl2 (b : Bool) : Fl := if b then .fresh else .shr
theorem fl2_bor {b : Bool} : fl2 b ≠ .bor := by cases b <;> decide
theorem fl2_fresh {b : Bool} (h : fl2 b = .fresh) : b = true := by cases b <;> first | rfl | cases h
def GE (cf : CF) (xr : XR) (X : Cx) (W : WX) (R0 : Addr → Prop) (M : List Mode) (e : Expr) (r : RE) : Prop := PE X e (tO X.K R0 M xr W r.2.2 (fl2 r.2.1) (evE cf r.1))
def HE (cf : CF) (xr : XR) (f : Ck → Expr → Option RE) : Prop := ∀ (C : Ck) (X : Cx) (W : WX) (R0 : Addr → Prop) (e : Expr) (r : RE), CtxOk cf xr C X W → f C e = some r → GE cf xr X W R0 C.M e r
section
variable {cf : CF} {ρ : Env}
theorem evE_bin {k : BinK} {a b : E} : evE cf (.bin k a b) = fun ρ => (evE cf a ρ).bind fun x ρ => (evE cf b ρ).bind fun y ρ => lift (opBin k x y) ρ := by funext ρ; rw [evE]
theorem evE_cmp {k : CmpK} {a b : E} : evE cf (.cmp k a b) = fun ρ => (evE cf a ρ).bind fun x ρ => (evE cf b ρ).bind fun y ρ => lift ((opCmp k x y).map .bl) ρ := by funext ρ; rw [evE]
theorem evE_chain {k k' : CmpK} {a b c : E} : evE cf (.chain k k' a b c) = fun ρ => (evE cf a ρ).bind fun x ρ => (evE cf b ρ).bind fun y ρ => match opCmp k x y with
      | some true => (evE cf c ρ).bind fun z ρ => lift ((opCmp k' y z).map .bl) ρ
      | some false => .ok (.bl false) ρ
      | none => .stuck := by funext ρ; rw [evE]; try rfl
theorem evE_not {a : E} : evE cf (.not_ a) = fun ρ => (evE cf a ρ).bind fun x ρ => lift ((truthD x).map fun b => .bl (!b)) ρ := by funext ρ; rw [evE]
theorem evE_neg {a : E} : evE cf (.neg a) = fun ρ => (evE cf a ρ).bind fun x ρ => match x with | .int i => .ok (.int (-i)) ρ | _ => .stuck := by funext ρ; rw [evE]; try rfl
theorem evE_and {es : List E} : evE cf (.andL es) = evAnd cf es := by funext ρ; rw [evE]
theorem evE_or {es : List E} : evE cf (.orL es) = evOr cf es := by funext ρ; rw [evE]
theorem evAnd_one {e : E} : evAnd cf [e] = evE cf e := by funext ρ; rw [evAnd]
theorem evOr_one {e : E} : evOr cf [e] = evE cf e := by funext ρ; rw [evOr]
theorem evAnd_cons {e e2 : E} {es : List E} : evAnd cf (e :: e2 :: es) = fun ρ => (evE cf e ρ).bind fun x ρ => match truthD x with
      | some true => evAnd cf (e2 :: es) ρ
      | some false => .ok x ρ
      | none => .stuck := by funext ρ; rw [evAnd] <;> first | rfl | (intro h; cases h)
theorem evOr_cons {e e2 : E} {es : List E} : evOr cf (e :: e2 :: es) = fun ρ => (evE cf e ρ).bind fun x ρ => match truthD x with
      | some true => .ok x ρ
      | some false => evOr cf (e2 :: es) ρ
      | none => .stuck := by funext ρ; rw [evOr] <;> first | rfl | (intro h; cases h)
theorem evEs_nil : evEs cf [] = fun ρ => .ok [] ρ := by funext ρ; rw [evEs]
theorem evEs_cons {e : E} {es : List E} : evEs cf (e :: es) = fun ρ => (evE cf e ρ).bind fun x ρ => (evEs cf es ρ).bind fun xs ρ => .ok (x :: xs) ρ := by funext ρ; rw [evEs]
theorem evEs_len : ∀ {es : List E} {ρ : Env} {ds : List D} {ρ' : Env}, evEs cf es ρ = .ok ds ρ' → ds.length = es.length
  | [], ρ, ds, ρ', h => by rw [evEs_nil] at h; cases h; rfl
  | e :: es, ρ, ds, ρ', h => by
    rw [evEs_cons] at h
    dsimp only at h
    cases e1 : evE cf e ρ with
    | ok d ρ1 =>
      rw [e1] at h
      dsimp only [Out.bind] at h
      cases e2 : evEs cf es ρ1 with
      | ok ds2 ρ2 =>
        rw [e2] at h
        cases h
        rw [List.length_cons, List.length_cons, evEs_len e2]
      | exc _ _ _ => rw [e2] at h; cases h
      | stuck => rw [e2] at h; cases h
    | exc _ _ _ => rw [e1] at h; cases h
    | stuck => rw [e1] at h; cases h
theorem evE_bvar {i : Nat} : evE cf (.bvar i) = fun ρ => lift (gv ρ i) ρ := by funext ρ; rw [evE]
theorem evE_var {i : Nat} : evE cf (.var i) = fun ρ => lift (gv ρ i) ρ := by funext ρ; rw [evE]
end
section
variable {cf : CF} {xr : XR} {C : Ck} {X : Cx} {W : WX} {R0 : Addr → Prop} {f : Ck → Expr → Option RE}
theorem compR_ok (hf : HE cf xr f) (c : CtxOk cf xr C X W) {e : Expr} {r : RR} (h : compR (f C) C e = some r) : PE X e (tO X.K R0 C.M xr W r.2.2 r.2.1 (evE cf r.1)) := by
  unfold compR at h
  cases eb : C.bv e with
  | some i =>
    rw [eb] at h
    cases h
    rw [evE_bvar]
    exact x_bvar (bv_ok c eb).2.1
  | none =>
    rw [eb] at h
    obtain ⟨r', h1, rfl⟩ := Option.map_eq_some_iff.mp h
    exact hf C X W R0 e r' c h1
theorem compR_bor {e : Expr} {r : RR} (h : compR (f C) C e = some r) (hb : r.2.1 = .bor) : ∃ i, C.bv e = some i ∧ r = (.bvar i, .bor, true) := by
  unfold compR at h
  cases eb : C.bv e with
  | some i => rw [eb] at h; cases h; exact ⟨i, rfl, rfl⟩
  | none =>
    rw [eb] at h
    obtain ⟨r', h1, rfl⟩ := Option.map_eq_some_iff.mp h
    exact absurd hb fl2_bor
theorem compL_ok (hf : HE cf xr f) (c : CtxOk cf xr C X W) : ∀ {es : List Expr} {r : List E × Bool}, compL (f C) es = some r → PA X es (tL X.K R0 C.M xr W r.2 (evEs cf r.1)) ∧ r.1.length = es.length ∧ es.all notStar = true
  | [], r, h => by cases h; rw [evEs_nil]; exact ⟨a_nil, rfl, rfl⟩
  | e :: es, r, h => by
    unfold compL at h
    split at h
    · rename_i hs
      obtain ⟨r1, h1, h2⟩ := Option.bind_eq_some_iff.mp h
      obtain ⟨s, h3, rfl⟩ := Option.map_eq_some_iff.mp h2
      obtain ⟨i1, i2, i3⟩ := compL_ok hf c h3
      refine ⟨?_, by simp [i2], by rw [List.all_cons, hs, i3]; rfl⟩
      rw [evEs_cons]
      exact a_cons (hf C X W R0 e r1 c h1) i1 fl2_bor (star_ok hs)
    · cases h
theorem compRs_ok (hf : HE cf xr f) (c : CtxOk cf xr C X W) : ∀ {es : List Expr} {r : List E × Bool}, compRs (f C) C es = some r → PA X es (tR X.K R0 C.M xr W r.2 (evEs cf r.1)) ∧ r.1.length = es.length ∧ es.all notStar = true
  | [], r, h => by cases h; rw [evEs_nil]; exact ⟨r_nil, rfl, rfl⟩
  | e :: es, r, h => by
    unfold compRs at h
    split at h
    · rename_i hs
      obtain ⟨r1, h1, h2⟩ := Option.bind_eq_some_iff.mp h
      obtain ⟨s, h3, h4⟩ := Option.bind_eq_some_iff.mp h2
      split at h4
      · rename_i hq
        cases h4
        obtain ⟨i1, i2, i3⟩ := compRs_ok hf c h3
        refine ⟨?_, by simp [i2], by rw [List.all_cons, hs, i3]; rfl⟩
        rw [evEs_cons]
        exact r_cons (compR_ok hf c h1) i1 hq (star_ok hs)
      · cases h4
    · cases h
theorem compA_ok (hf : HE cf xr f) (c : CtxOk cf xr C X W) : ∀ {es : List Expr} {r : List E × Bool}, compA (f C) C es = some r → PA X es (tA X.K R0 C.M xr W r.2 r.1 (evEs cf r.1)) ∧ r.1.length = es.length ∧ es.all notStar = true
  | [], r, h => by cases h; rw [evEs_nil]; exact ⟨c_nil, rfl, rfl⟩
  | e :: es, r, h => by
    unfold compA at h
    split at h
    · rename_i hs
      obtain ⟨r1, h1, h2⟩ := Option.bind_eq_some_iff.mp h
      obtain ⟨s, h3, h4⟩ := Option.bind_eq_some_iff.mp h2
      split at h4
      · rename_i hb
        cases h4
        obtain ⟨i1, i2, i3⟩ := compA_ok hf c h3
        refine ⟨?_, by simp [i2], by rw [List.all_cons, hs, i3]; rfl⟩
        rw [evEs_cons]
        by_cases e1 : r1.2.1 = .bor
        · obtain ⟨i, e2, rfl⟩ := compR_bor h1 e1
          rw [evE_bvar]
          exact c_bv (bv_ok c e2).2.1 i1 (star_ok hs)
        · rw [decide_eq_false e1] at hb
          exact c_val (compR_ok hf c h1) i1 e1 hb (star_ok hs)
      · cases h4
    · cases h
theorem compBs_and (hf : HE cf xr f) (c : CtxOk cf xr C X W) {pos : Pos} : ∀ {es : List Expr} {r : List E × Bool}, compBs (f C) es = some r → PE X (.BoolOp .And es pos) (tO X.K R0 C.M xr W r.2 .shr (evAnd cf r.1)) ∧ r.1 ≠ []
  | [], r, h => by cases h
  | [e], r, h => by
    obtain ⟨r1, h1, rfl⟩ := Option.map_eq_some_iff.mp (show (f C e).map (fun r => ([r.1], r.2.2)) = some r from h)
    refine ⟨?_, by simp⟩
    rw [evAnd_one]
    exact x_and1 (x_weak (hf C X W R0 e r1 c h1) fl2_bor id)
  | e :: e2 :: es, r, h => by
    obtain ⟨r1, h1, h2⟩ := Option.bind_eq_some_iff.mp (show (f C e).bind (fun r => (compBs (f C) (e2 :: es)).map fun s => (r.1 :: s.1, r.2.2 && s.2)) = some r from h)
    obtain ⟨s, h3, rfl⟩ := Option.map_eq_some_iff.mp h2
    obtain ⟨i1, i2⟩ := compBs_and hf c (pos := pos) h3
    refine ⟨?_, by simp⟩
    obtain ⟨s1, sq⟩ := s
    cases s1 with
    | nil => exact absurd rfl i2
    | cons x xs =>
      rw [evAnd_cons]
      exact x_andV (hf C X W R0 e r1 c h1) i1 fl2_bor
theorem compBs_or (hf : HE cf xr f) (c : CtxOk cf xr C X W) {pos : Pos} : ∀ {es : List Expr} {r : List E × Bool}, compBs (f C) es = some r → PE X (.BoolOp .Or es pos) (tO X.K R0 C.M xr W r.2 .shr (evOr cf r.1)) ∧ r.1 ≠ []
  | [], r, h => by cases h
  | [e], r, h => by
    obtain ⟨r1, h1, rfl⟩ := Option.map_eq_some_iff.mp (show (f C e).map (fun r => ([r.1], r.2.2)) = some r from h)
    refine ⟨?_, by simp⟩
    rw [evOr_one]
    exact x_or1 (x_weak (hf C X W R0 e r1 c h1) fl2_bor id)
  | e :: e2 :: es, r, h => by
    obtain ⟨r1, h1, h2⟩ := Option.bind_eq_some_iff.mp (show (f C e).bind (fun r => (compBs (f C) (e2 :: es)).map fun s => (r.1 :: s.1, r.2.2 && s.2)) = some r from h)
    obtain ⟨s, h3, rfl⟩ := Option.map_eq_some_iff.mp h2
    obtain ⟨i1, i2⟩ := compBs_or hf c (pos := pos) h3
    refine ⟨?_, by simp⟩
    obtain ⟨s1, sq⟩ := s
    cases s1 with
    | nil => exact absurd rfl i2
    | cons x xs =>
      rw [evOr_cons]
      exact x_orV (hf C X W R0 e r1 c h1) i1 fl2_bor
/-- the comparisons -/
theorem cmp_ok (hu : X.A.units + 200 < cLine) (op : CmpOp) : OpR X (compareOp op) (rD X.K (fun a b => (opCmp (cmpK op) a b).map .bl) true) := by
  cases op with
  | Eq => exact opD_eq hu
  | NotEq => exact opD_ne hu
  | Lt => exact opD_lt hu
  | LtE => exact opD_le
  | Gt => exact opD_gt
  | GtE => exact opD_ge
  | Is => exact opD_is
  | IsNot => exact opD_isnot
  | In => exact opD_in hu
  | NotIn => exact opD_notin hu
theorem bin_ok {op : Operator} {k : BinK} (h : binK op = some k) : ∃ fr, OpR X (binaryOp op) (rD X.K (opBin k) fr) ∧ fr = true := by
  cases op <;> first | (cases h) <;> first
    | exact ⟨true, opD_add, rfl⟩
    | exact ⟨true, opD_sub, rfl⟩
    | exact ⟨true, opD_mul, rfl⟩
    | exact ⟨true, opD_fdiv, rfl⟩
    | exact ⟨true, opD_mod, rfl⟩
    | exact ⟨true, opD_pow, rfl⟩
theorem compTs_ok (t : Expr → Option (E × Bool)) (ht : ∀ e r, t e = some r → PT X e (tT X.K R0 C.M xr W r.2 (tr (evE cf r.1)))) {pos : Pos} : ∀ {es : List Expr} {r : List E × Bool}, compT.compTs t es = some r →
    PW X (.BoolOp .And es pos) (tT X.K R0 C.M xr W r.2 (tr (evAnd cf r.1))) ∧ PW X (.BoolOp .Or es pos) (tT X.K R0 C.M xr W r.2 (tr (evOr cf r.1))) ∧ r.1 ≠ []
  | [], r, h => by cases h
  | [e], r, h => by
    obtain ⟨r1, h1, rfl⟩ := Option.map_eq_some_iff.mp (show (t e).map (fun r => ([r.1], r.2)) = some r from h)
    refine ⟨?_, ?_, by simp⟩
    · rw [evAnd_one]; exact pw_and1 (ht e r1 h1)
    · rw [evOr_one]; exact pw_or1 (ht e r1 h1)
  | e :: e2 :: es, r, h => by
    obtain ⟨r1, h1, h2⟩ := Option.bind_eq_some_iff.mp (show (t e).bind (fun r => (compT.compTs t (e2 :: es)).map fun s => (r.1 :: s.1, r.2 && s.2)) = some r from h)
    obtain ⟨s, h3, rfl⟩ := Option.map_eq_some_iff.mp h2
    obtain ⟨i1, i2, i3⟩ := compTs_ok t ht (pos := pos) h3
    obtain ⟨s1, sq⟩ := s
    cases s1 with
    | nil => exact absurd rfl i3
    | cons x xs =>
      refine ⟨?_, ?_, by simp⟩
      · rw [evAnd_cons]; exact x_andT (ht e r1 h1) i1
      · rw [evOr_cons]; exact x_orT (ht e r1 h1) i2
end
end Ev
end -- EvD2

section -- EvD3
set_option Elab.async false
set_option linter.all false
set_option maxRecDepth 100000
set_option maxHeartbeats 1000000
/-! EvD3: tests, walks, targets, comprehensions. -/
namespace Ev
open PySem PySem.Spec PyProof.Rows L2
section
variable {cf : CF} {xr : XR} {C : Ck} {X : Cx} {W : WX} {R0 : Addr → Prop} {f : Ck → Expr → Option RE}
theorem compT_ok (hf : HE cf xr f) (c : CtxOk cf xr C X W) : ∀ (n : Nat) {e : Expr} {r : E × Bool}, compT (f C) C n e = some r → PT X e (tT X.K R0 C.M xr W r.2 (tr (evE cf r.1))) := by
  intro n
  induction n with
  | zero => intro e r h; cases h
  | succ n ih =>
    intro e r h
    have plain : ∀ {e : Expr} {r : E × Bool}, (if plainTest e then (compR (f C) C e).map fun r => (r.1, r.2.2) else none) = some r → PT X e (tT X.K R0 C.M xr W r.2 (tr (evE cf r.1))) := fun {e r} h => by
      split at h
      · rename_i hp
        obtain ⟨r1, h1, rfl⟩ := Option.map_eq_some_iff.mp h
        exact x_truth (compR_ok hf c h1) (plain_ok hp)
      · cases h
    unfold compT at h
    split at h
    · cases h
    · rename_i hn
      cases hn
      obtain ⟨r1, h1, rfl⟩ := Option.map_eq_some_iff.mp h
      have := x_notT (pos := by assumption) (ih h1)
      rw [evE_not]
      exact this
    · rename_i hn
      cases hn
      obtain ⟨r1, h1, rfl⟩ := Option.map_eq_some_iff.mp h
      rw [evE_and]
      exact (compTs_ok _ (fun e r h => ih h) h1).1.pt
    · rename_i hn
      cases hn
      obtain ⟨r1, h1, rfl⟩ := Option.map_eq_some_iff.mp h
      rw [evE_or]
      exact (compTs_ok _ (fun e r h => ih h) h1).2.1.pt
    · rename_i hn
      cases hn
      obtain ⟨ra, h1, h2⟩ := Option.bind_eq_some_iff.mp h
      obtain ⟨rb, h3, h4⟩ := Option.bind_eq_some_iff.mp h2
      split at h4
      · rename_i hq
        cases h4
        rw [evE_cmp]
        exact x_cmpT (cmp_ok c.hu _) (compR_ok hf c h1) (compR_ok hf c h3) hq.1 (mark_ok hq.2)
      · cases h4
    · rename_i hn
      cases hn
      obtain ⟨ra, h1, h2⟩ := Option.bind_eq_some_iff.mp h
      obtain ⟨rb, h3, h4⟩ := Option.bind_eq_some_iff.mp h2
      obtain ⟨rc, h5, h6⟩ := Option.bind_eq_some_iff.mp h4
      split at h6
      · rename_i hq
        cases h6
        rw [evE_chain]
        exact x_chainT (cmp_ok c.hu _) (cmp_ok c.hu _) (compR_ok hf c h1) (compR_ok hf c h3) (compR_ok hf c h5) hq.1 hq.2.1 (mark2_ok hq.2.2)
      · cases h6
    · exact plain h
/-- what is walked: the code that stands for it, by items -/
def evI (cf : CF) (c : E) : Env → Out (List D) := fun ρ => (evE cf c ρ).bind fun x ρ => lift (itemsD x) ρ
theorem borM_len {M : List Mode} : borM M M.length = M := borM_not fun h => by have := md_own_lt h; omega
theorem evE_rng {es : List E} : evE cf (.rng es) = fun ρ => (evEs cf es ρ).bind fun xs ρ => lift (opRng xs) ρ := by funext ρ; rw [evE]
theorem compI_ok (hf : HE cf xr f) (c : CtxOk cf xr C X W) {tg it : Expr} {r : E × List Mode × Bool} (hs : notSet it = true) (h : compI (f C) C it = some r) : ∃ i, r.2.1 = borM C.M i ∧ PI X tg it (tI X.K R0 C.M r.2.1 xr W r.2.2 (evI cf r.1)) := by
  have val : ∀ {e : Expr} {r1 : RE}, f C e = some r1 → ∃ i, C.M = borM C.M i ∧ PI X tg e (tI X.K R0 C.M C.M xr W r1.2.2 (evI cf r1.1)) := fun {e r1} h1 => ⟨C.M.length, borM_len.symm, i_val (hf C X W R0 e r1 c h1) fl2_bor⟩
  unfold compI at h
  split at h
  · rename_i x p args pos
    split at h
    · rename_i hx
      subst hx
      split at h
      · rename_i hg
        rw [Bool.and_eq_true, Bool.or_eq_true, beq_iff_eq, beq_iff_eq] at hg
        obtain ⟨r1, h1, rfl⟩ := Option.map_eq_some_iff.mp h
        refine ⟨C.M.length, borM_len.symm, ?_⟩
        obtain ⟨a1, a2, a3⟩ := compL_ok (R0 := R0) hf c h1
        have g := (gl_ok c hg.1).1
        have m := c.blt "range" (by decide +kernel)
        show PI X tg _ (tI X.K R0 C.M C.M xr W r1.2 (evI cf (.rng r1.1)))
        unfold evI
        rw [evE_rng]
        rcases hg.2 with hl | hl
        · match args, hl with
          | [a], _ =>
            rw [List.all_cons, Bool.and_eq_true] at a3
            exact i_rng1 g m a1 (fun ρ ds ρ' e => by rw [evEs_len e, a2]; rfl) (star_ok a3.1)
        · match args, hl with
          | [a, b], _ =>
            rw [List.all_cons, List.all_cons, Bool.and_eq_true, Bool.and_eq_true] at a3
            refine i_rng2 g m a1 (fun ρ ds ρ' e => by rw [evEs_len e, a2]; rfl) ?_ (star_ok a3.2.1)
            rw [star_ok a3.1, star_ok a3.2.1]; rfl
      · cases h
    · obtain ⟨r1, h1, rfl⟩ := Option.map_eq_some_iff.mp h
      exact val h1
  · cases eb : C.bv it with
    | some i =>
      rw [eb] at h
      cases h
      refine ⟨i, rfl, ?_⟩
      show PI X tg _ (tI X.K R0 C.M (borM C.M i) xr W true (evI cf (.bvar i)))
      unfold evI
      rw [evE_bvar]
      exact i_bv (bv_ok c eb).2.1
    | none =>
      rw [eb] at h
      dsimp only at h
      rw [if_pos hs] at h
      obtain ⟨r1, h1, rfl⟩ := Option.map_eq_some_iff.mp h
      exact val h1
theorem compTgs_ok (g : Expr → Option T) (hg : ∀ e t, g e = some t → PG X e (gT X.K R0 C.M t) ∧ (∀ i ∈ varsT t, md C.M i = .shr)) : ∀ {es : List Expr} {ts : List T}, compTg.compTgs g es = some ts → PGs X es (gTs X.K R0 C.M ts) ∧ (∀ i ∈ varsTs ts, md C.M i = .shr) ∧ (assignEach es X.env).length = ts.length ∧ (assignEach es X.env).findIdx? (·.1) = none
  | [], ts, h => by cases h; exact ⟨g_nil, by unfold varsTs; simp, rfl, rfl⟩
  | e :: es, ts, h => by
    unfold compTg.compTgs at h
    split at h
    · rename_i hs
      obtain ⟨t, h1, h2⟩ := Option.bind_eq_some_iff.mp h
      obtain ⟨ts', h3, rfl⟩ := Option.map_eq_some_iff.mp h2
      obtain ⟨i1, i2⟩ := hg e t h1
      obtain ⟨j1, j2, j3, j4⟩ := compTgs_ok g hg h3
      have ha : assignEach (e :: es) X.env = (false, assign e X.env) :: assignEach es X.env := by
        cases e <;> first | rfl | (cases hs)
      refine ⟨g_cons i1 j1 i2 (by rw [ha]; rfl), fun i hi => ?_, by rw [ha, List.length_cons, List.length_cons, j3], by rw [ha, List.findIdx?_cons, j4]; rfl⟩
      unfold varsTs at hi
      rcases List.mem_append.mp hi with z | z
      · exact i2 i z
      · exact j2 i z
    · cases h
theorem compTg_ok (c : CtxOk cf xr C X W) : ∀ (n : Nat) {e : Expr} {t : T}, compTg C n e = some t → PG X e (gT X.K R0 C.M t) ∧ (∀ i ∈ varsT t, md C.M i = .shr) := by
  intro n
  induction n with
  | zero => intro e t h; unfold compTg at h; cases h
  | succ n ih =>
    intro e t h
    unfold compTg at h
    split at h
    · rename_i x p hn
      obtain ⟨i, h1, h2⟩ := Option.bind_eq_some_iff.mp h
      split at h2
      · rename_i hs
        cases h2
        rw [Bool.and_eq_true, decide_eq_true_eq] at hs
        obtain ⟨s1, s2⟩ := st_ok c hs.1
        refine ⟨g_name (by rw [c.N]; exact c.nd) (slot_ok c h1).1 s1 s2 hs.2, fun j hj => ?_⟩
        unfold varsT at hj
        have : j = i := by simpa using hj
        rw [this]; exact hs.2
      · cases h2
    · rename_i es k p hn
      cases hn
      obtain ⟨ts, h1, rfl⟩ := Option.map_eq_some_iff.mp h
      obtain ⟨j1, j2, j3, j4⟩ := compTgs_ok (C := C) _ (fun e t h => ih h) h1
      exact ⟨g_tup c.calm j1 j3 j4, fun i hi => j2 i (by unfold varsT at hi; exact hi)⟩
    · cases h
theorem evE_comp {el : E} {t : T} {it : E} {ifs : List E} {own : List Nat} : evE cf (.comp el t it ifs own) = fun ρ => (evI cf it ρ).bind (compO t (evAll cf ifs) (evE cf el) own) := by
  funext ρ
  rw [evE]
  unfold evI compO compStep
  cases evE cf it ρ with
  | ok x ρ0 =>
    dsimp only [Out.bind]
    cases itemsD x with
    | none => rfl
    | some xs => rfl
  | exc c p ρ0 => rfl
  | stuck => rfl
theorem evAll_nil : evAll cf [] = fun ρ => .ok true ρ := by funext ρ; rw [evAll]
theorem evAll_one {e : E} : evAll cf [e] = fun ρ => (evE cf e ρ).bind fun x ρ => match truthD x with
      | some true => .ok true ρ
      | some false => .ok false ρ
      | none => .stuck := by funext ρ; rw [evAll, evAll_nil]; try rfl
theorem compFs_ok (t : Expr → Option (E × Bool)) (ht : ∀ e r, t e = some r → PT X e (tT X.K R0 C.M xr W r.2 (tr (evE cf r.1)))) {es : List Expr} {r : List E × Bool} (h : compFs t es = some r) : PTs X es (tT X.K R0 C.M xr W r.2 (evAll cf r.1)) := by
  unfold compFs at h
  split at h
  · cases h; rw [evAll_nil]; exact ts_nil
  · obtain ⟨r1, h1, rfl⟩ := Option.map_eq_some_iff.mp h
    rw [evAll_one]; exact ts_one (ht _ r1 h1)
  · cases h
/-- the parts of a comprehension -/
structure CParts (cf : CF) (xr : XR) (C : Ck) (X : Cx) (W : WX) (R0 : Addr → Prop) (elt tg iter : Expr) (ifs : List Expr) (scope : Scope) (r : E × Bool) : Prop where
  ex : ∃ (M' : List Mode) (own : List (Str × Nat)) (t : T) (qi qt qe : Bool) (fe : Fl) (gi : Env → Out (List D)) (gt : Env → Out Bool) (ge : Env → Out D), r.2 = (qi && (qt && qe)) ∧ evE cf r.1 = (fun ρ => (gi ρ).bind (compO t gt ge (own.map (·.2)))) ∧
    PI X tg iter (tI X.K R0 C.M M' xr W qi gi) ∧ BlkOk X.N X.env.scope scope own ∧ MW C.M M' ∧ (∀ i ∈ own.map (·.2), md C.M i = .shr) ∧ (∀ i ∈ varsT t, i ∈ own.map (·.2)) ∧ fe ≠ .bor ∧
    (∀ (R2 : Addr → Prop) (s : Shared) (H : Hp) (Cd : Addr) (cl : List (Str × Addr)) (fp : List Addr), PG (X.blk s H scope (compEnvC scope cl Cd X.env) fp) tg (gT X.K R2 M' t)) ∧
    (∀ (R2 : Addr → Prop) (s : Shared) (H : Hp) (Cd : Addr) (cl : List (Str × Addr)) (fp : List Addr), PTs (X.blk s H scope (compEnvC scope cl Cd X.env) fp) ifs (tT X.K R2 M' xr WF qt gt)) ∧
    (∀ (R2 : Addr → Prop) (s : Shared) (H : Hp) (Cd : Addr) (cl : List (Str × Addr)) (fp : List Addr), PE (X.blk s H scope (compEnvC scope cl Cd X.env) fp) elt (tO X.K R2 M' xr WF qe fe ge)) ∧ (∀ x, foldedSetIterable iter X.env x = pure x)
theorem compC_ok (hf : HE cf xr f) (c : CtxOk cf xr C X W) {n : Nat} {elt tg iter : Expr} {ifs : List Expr} {scope : Scope} {r : E × Bool} (h : compC f n C elt tg iter ifs scope = some r) : CParts cf xr C X W R0 elt tg iter ifs scope r := by
  unfold compC at h
  split at h
  · rename_i hs
    obtain ⟨ri, h1, h2⟩ := Option.bind_eq_some_iff.mp h
    obtain ⟨own, h3, h4⟩ := Option.bind_eq_some_iff.mp h2
    obtain ⟨t, h5, h6⟩ := Option.bind_eq_some_iff.mp h4
    obtain ⟨ts, h7, h8⟩ := Option.bind_eq_some_iff.mp h6
    obtain ⟨re, h9, h10⟩ := Option.bind_eq_some_iff.mp h8
    split at h10
    · rename_i hc
      cases h10
      rw [Bool.and_eq_true, Bool.and_eq_true] at hc
      have ok := blkOk_by hc.1.1
      obtain ⟨i, hi, pi⟩ := compI_ok (R0 := R0) (tg := tg) hf c hs h1
      have cb := fun s H Cd cl fp => c.blk (M' := ri.2.1) ok.kind s H Cd cl fp
      refine ⟨ri.2.1, own, t, ri.2.2, ts.2, re.2.2, fl2 re.2.1, evI cf ri.1, evAll cf ts.1, evE cf re.1, rfl, evE_comp, pi, by rw [c.N, c.sc]; exact ok, .inr ⟨i, hi⟩, fun j hj => ?_, fun j hj => ?_, fl2_bor, fun R2 s H Cd cl fp => ?_, fun R2 s H Cd cl fp => ?_, fun R2 s H Cd cl fp => ?_, fold_ok hs⟩
      · obtain ⟨p, hp, rfl⟩ := List.mem_map.mp hj
        have := List.all_eq_true.mp hc.1.2 p hp
        exact of_decide_eq_true this
      · have := List.all_eq_true.mp hc.2 j hj
        exact List.contains_iff_mem.mp this
      · exact (compTg_ok (R0 := R2) (cb s H Cd cl fp) n h5).1
      · exact compFs_ok (C := { C with M := ri.2.1, sc := relabS scope C.sc, blk := some scope }) _ (fun e r h => compT_ok hf (cb s H Cd cl fp) n h) h7
      · exact hf _ _ _ R2 elt re (cb s H Cd cl fp) h9
    · cases h10
  · cases h
end
end Ev
end -- EvD3

section -- EvD4
set_option Elab.async false
set_option linter.all false
set_option maxRecDepth 100000
set_option maxHeartbeats 1000000
/-! EvD4: constants, built-ins, slices: what the main theorem leans on. -/
namespace Ev
open PySem PySem.Spec PyProof.Rows L2
section
variable {cf : CF} {xr : XR} {C : Ck} {X : Cx} {W : WX} {R0 : Addr → Prop} {f : Ck → Expr → Option RE}
theorem con_ok {c : Const} {d : D} {j : Nat} {p : Pos} (h : conD c = some d) : ∃ v, PE X (.Constant c j p) (tC v) ∧ (∀ R H, Rep X.K R H d v) ∧ isMut d = false := by
  unfold conD at h
  split at h
  · cases h; exact ⟨_, pe_non, fun _ _ => .non, rfl⟩
  · cases h; exact ⟨_, pe_bl, fun _ _ => .bl _, rfl⟩
  · cases h; exact ⟨_, pe_int, fun _ _ => .int _, rfl⟩
  · rename_i s
    split at h
    · rename_i hs
      cases h
      have e : s = mkS s.cps.toList := by cases s; simp [mkS]
      refine ⟨.str s, pe_str, fun _ _ => ?_, rfl⟩
      rw [e]
      refine .str _ ⟨hs.1, fun c hc => ?_⟩
      have := List.all_eq_true.mp hs.2 c (by simpa [mkS] using hc)
      exact of_decide_eq_true this
    · cases h
  · cases h
theorem evE_con {d : D} : evE cf (.con d) = fun ρ => .ok d ρ := by funext ρ; rw [evE]
theorem evE_glob {d : D} : evE cf (.glob d) = fun ρ => .ok d ρ := by funext ρ; rw [evE]
theorem evE_tup {es : List E} : evE cf (.tup es) = fun ρ => (evEs cf es ρ).bind fun xs ρ => .ok (.tup xs) ρ := by funext ρ; rw [evE]
theorem evE_lst {es : List E} : evE cf (.lst es) = fun ρ => (evEs cf es ρ).bind fun xs ρ => .ok (.lst xs) ρ := by funext ρ; rw [evE]
theorem evE_sub {a b : E} : evE cf (.sub a b) = fun ρ => (evE cf a ρ).bind fun x ρ => (evE cf b ρ).bind fun y ρ => lift (opSub x y) ρ := by funext ρ; rw [evE]
theorem evE_rev {a : E} : evE cf (.rev a) = fun ρ => (evE cf a ρ).bind fun x ρ => lift (opRev x) ρ := by funext ρ; rw [evE]
theorem evE_bi {b : BI} {es : List E} : evE cf (.bi b es) = fun ρ => (evEs cf es ρ).bind fun xs ρ => lift (opB b xs) ρ := by funext ρ; rw [evE]
theorem evE_isi {a : E} {t : TyK} : evE cf (.isinst a t) = fun ρ => (evE cf a ρ).bind fun x ρ => lift ((isTy x t).map .bl) ρ := by funext ρ; rw [evE]
theorem evE_ite {c a b : E} : evE cf (.ite c a b) = fun ρ => (evE cf c ρ).bind fun x ρ => match truthD x with
      | some true => evE cf a ρ
      | some false => evE cf b ρ
      | none => .stuck := by funext ρ; rw [evE]; try rfl
theorem evE_call {i : Nat} {ms : List PM} {es : List E} : evE cf (.call i ms es) = fun ρ => (evEs cf es ρ).bind (callO ms es (cf i)) := by
  funext ρ; rw [evE]; rfl
theorem evE_meth {m : MK} {a e : E} : evE cf (.meth m a [e]) = fun ρ => (evE cf a ρ).bind fun x ρ => if recvOk m x then ((evE cf e ρ).bind fun y ρ => Out.ok [y] ρ).bind fun xs ρ => lift (opM m x xs) ρ else .stuck := by
  funext ρ; rw [evE, evEs_cons, evEs_nil]; rfl
theorem rng_list1 {a : E} : evE cf (.bi .list [.rng [a]]) = fun ρ => (evE cf a ρ).bind fun x ρ => lift (opRng [x]) ρ := by
  funext ρ
  rw [evE_bi, evEs_cons, evEs_nil, evE_rng, evEs_cons, evEs_nil]
  dsimp only
  cases evE cf a ρ with
  | ok x ρ1 =>
    dsimp only [Out.bind]
    cases e : opRng [x] with
    | none => rfl
    | some d =>
      obtain ⟨j, _, _, rfl⟩ := opRng1 e rfl
      rfl
  | exc _ _ _ => rfl
  | stuck => rfl
theorem rng_list2 {a b : E} : evE cf (.bi .list [.rng [a, b]]) = fun ρ => (evE cf a ρ).bind fun x ρ => (evE cf b ρ).bind fun y ρ => lift (opRng [x, y]) ρ := by
  funext ρ
  rw [evE_bi, evEs_cons, evEs_nil, evE_rng, evEs_cons, evEs_cons, evEs_nil]
  dsimp only
  cases evE cf a ρ with
  | ok x ρ1 =>
    dsimp only [Out.bind]
    cases evE cf b ρ1 with
    | ok y ρ2 =>
      dsimp only
      cases e : opRng [x, y] with
      | none => rfl
      | some d =>
        obtain ⟨i, j, _, _, rfl⟩ := opRng2 e rfl
        rfl
    | exc _ _ _ => rfl
    | stuck => rfl
  | exc _ _ _ => rfl
  | stuck => rfl
theorem rngArg_ok {es rs : List Expr} (h : rngArg es = some rs) : ∃ p pos, es = [.Call (.Name "range" p) rs [] pos] ∧ (rs.length = 1 ∨ rs.length = 2) := by
  unfold rngArg at h
  split at h
  · split at h
    · rename_i hc
      cases h
      obtain ⟨rfl, hl⟩ := hc
      exact ⟨_, _, rfl, hl⟩
    · cases h
  · cases h
theorem ite_some {α : Type} {p : Prop} [Decidable p] {a k : α} (h : (if p then some a else none) = some k) : p ∧ a = k := by
  by_cases e : p
  · rw [if_pos e] at h; exact ⟨e, Option.some.inj h⟩
  · rw [if_neg e] at h; cases h
/-- a built-in by its name -/
theorem blt_ok (c : CtxOk cf xr C X W) {x : Str} {n : Nat} {k : BKind} (h : bltOf x n = some k) : x ∈ bltNames ∧ 1 ≤ n ∧ match k with
    | .blt b => ∃ id, CallR X (.builtin id) (rDs X.K (opB b) true) ∧ bootBuiltins x = some (.builtin id)
    | .ty b => ∃ T, CallR X (.type T) (rDs X.K (opB b) true) ∧ bootBuiltins x = some (.type T) := by
  unfold bltOf at h
  by_cases e : x = ("len" : Str)
  · rw [if_pos e] at h
    subst e
    obtain ⟨rfl, rfl⟩ := ite_some h
    exact ⟨by decide +kernel, by decide, "len", cr_len, by boot_by_name⟩
  rw [if_neg e] at h
  clear e
  by_cases e : x = ("tuple" : Str)
  · rw [if_pos e] at h
    subst e
    obtain ⟨rfl, rfl⟩ := ite_some h
    exact ⟨by decide +kernel, by decide, "tuple", cr_tuple, by boot_by_name⟩
  rw [if_neg e] at h
  clear e
  by_cases e : x = ("list" : Str)
  · rw [if_pos e] at h
    subst e
    obtain ⟨rfl, rfl⟩ := ite_some h
    exact ⟨by decide +kernel, by decide, "list", cr_list, by boot_by_name⟩
  rw [if_neg e] at h
  clear e
  by_cases e : x = ("sorted" : Str)
  · rw [if_pos e] at h
    subst e
    obtain ⟨rfl, rfl⟩ := ite_some h
    exact ⟨by decide +kernel, by decide, "sorted", cr_sortedD c.hu, by boot_by_name⟩
  rw [if_neg e] at h
  clear e
  by_cases e : x = ("all" : Str)
  · rw [if_pos e] at h
    subst e
    obtain ⟨rfl, rfl⟩ := ite_some h
    exact ⟨by decide +kernel, by decide, "all", cr_allD c.calm, by boot_by_name⟩
  rw [if_neg e] at h
  clear e
  by_cases e : x = ("any" : Str)
  · rw [if_pos e] at h
    subst e
    obtain ⟨rfl, rfl⟩ := ite_some h
    exact ⟨by decide +kernel, by decide, "any", cr_anyD c.calm, by boot_by_name⟩
  rw [if_neg e] at h
  clear e
  by_cases e : x = ("sum" : Str)
  · rw [if_pos e] at h
    subst e
    obtain ⟨rfl, rfl⟩ := ite_some h
    exact ⟨by decide +kernel, by decide, "sum", cr_sumD c.calm, by boot_by_name⟩
  rw [if_neg e] at h
  clear e
  by_cases e : x = ("min" : Str)
  · rw [if_pos e] at h
    subst e
    obtain ⟨rfl, rfl⟩ := ite_some h
    exact ⟨by decide +kernel, by decide, "min", cr_min2D c.calm, by boot_by_name⟩
  rw [if_neg e] at h
  clear e
  by_cases e : x = ("max" : Str)
  · rw [if_pos e] at h
    subst e
    obtain ⟨rfl, rfl⟩ := ite_some h
    exact ⟨by decide +kernel, by decide, "max", cr_max2D c.calm, by boot_by_name⟩
  rw [if_neg e] at h
  clear e
  by_cases e : x = ("abs" : Str)
  · rw [if_pos e] at h
    subst e
    obtain ⟨rfl, rfl⟩ := ite_some h
    exact ⟨by decide +kernel, by decide, "abs", cr_absD, by boot_by_name⟩
  rw [if_neg e] at h
  clear e
  by_cases e : x = ("int" : Str)
  · rw [if_pos e] at h
    subst e
    obtain ⟨rfl, rfl⟩ := ite_some h
    exact ⟨by decide +kernel, by decide, "int", cr_intD, by boot_by_name⟩
  rw [if_neg e] at h
  clear e
  by_cases e : x = ("ord" : Str)
  · rw [if_pos e] at h
    subst e
    obtain ⟨rfl, rfl⟩ := ite_some h
    exact ⟨by decide +kernel, by decide, "ord", cr_ordD, by boot_by_name⟩
  rw [if_neg e] at h
  clear e
  cases h
theorem tyOf_ok {x : Str} {k : TyK} (h : tyOf x = some k) : x = tyName k ∧ x ∈ bltNames := by
  unfold tyOf at h
  by_cases e : x = ("int" : Str)
  · rw [if_pos e] at h; subst e; cases h; exact ⟨rfl, by decide +kernel⟩
  rw [if_neg e] at h
  clear e
  by_cases e : x = ("bool" : Str)
  · rw [if_pos e] at h; subst e; cases h; exact ⟨rfl, by decide +kernel⟩
  rw [if_neg e] at h
  clear e
  by_cases e : x = ("str" : Str)
  · rw [if_pos e] at h; subst e; cases h; exact ⟨rfl, by decide +kernel⟩
  rw [if_neg e] at h
  clear e
  by_cases e : x = ("tuple" : Str)
  · rw [if_pos e] at h; subst e; cases h; exact ⟨rfl, by decide +kernel⟩
  rw [if_neg e] at h
  clear e
  by_cases e : x = ("list" : Str)
  · rw [if_pos e] at h; subst e; cases h; exact ⟨rfl, by decide +kernel⟩
  rw [if_neg e] at h
  clear e
  by_cases e : x = ("dict" : Str)
  · rw [if_pos e] at h; subst e; cases h; exact ⟨rfl, by decide +kernel⟩
  rw [if_neg e] at h
  clear e
  cases h
theorem part_int {c : E} (hc : c = .con .non → False) : ∀ l, partOk c l = (match l with | .int _ => true | _ => false) := by
  intro l
  cases c with
  | con d => cases d <;> (cases l <;> first | rfl | exact absurd rfl hc)
  | _ => cases l <;> rfl
/-- a slice's part -/
theorem compP_ok (hf : HE cf xr f) (c : CtxOk cf xr C X W) {o : Option Expr} {r : E × Bool} (h : compE.compP (f C) o = some r) : ∃ gp : Env → Out (Option Int), PO X o (tP X.K R0 C.M xr W r.2 gp) ∧
    ∀ (ρ : Env) (k : D → Env → Out D), ((evE cf r.1 ρ).bind fun l ρ => if partOk r.1 l then k l ρ else .stuck) = (gp ρ).bind fun l ρ => k (toPart l) ρ := by
  unfold compE.compP at h
  split at h
  · cases h
    refine ⟨_, p_none, fun ρ k => ?_⟩
    rw [evE_con]
    rfl
  · obtain ⟨r1, h1, h2⟩ := Option.bind_eq_some_iff.mp h
    split at h2
    · cases h2
    · rename_i hn
      cases h2
      refine ⟨_, p_some (hf C X W R0 _ r1 c h1), fun ρ k => ?_⟩
      have hp := part_int (c := r1.1) hn
      dsimp only
      cases evE cf r1.1 ρ with
      | ok l ρ1 =>
        dsimp only [Out.bind]
        rw [hp]
        cases l <;> rfl
      | exc _ _ _ => rfl
      | stuck => rfl
end
end Ev
end -- EvD4

section -- EvD5
set_option Elab.async false
set_option linter.all false
set_option maxRecDepth 100000
set_option maxHeartbeats 2000000
/-! EvD5: the compiled code is what the expression does. -/
namespace Ev
open PySem PySem.Spec PyProof.Rows L2
section
variable {cf : CF} {xr : XR}
theorem compRs_one {C : Ck} {f : Expr → Option RE} {a : Expr} {r : List E × Bool} (h : compRs f C [a] = some r) : ∃ ra, compR f C a = some ra ∧ r = ([ra.1], ra.2.2 && true) ∧ notStar a = true := by
  unfold compRs at h
  split at h
  · rename_i hs
    obtain ⟨ra, h1, h2⟩ := Option.bind_eq_some_iff.mp h
    obtain ⟨s, h3, h4⟩ := Option.bind_eq_some_iff.mp h2
    cases h3
    obtain ⟨_, rfl⟩ := ite_some h4
    exact ⟨ra, h1, rfl, hs⟩
  · cases h
theorem compRs_two {C : Ck} {f : Expr → Option RE} {a b : Expr} {r : List E × Bool} (h : compRs f C [a, b] = some r) : ∃ ra rb, compR f C a = some ra ∧ compR f C b = some rb ∧ (ra.2.1 = .bor → rb.2.2 = true) ∧ r = ([ra.1, rb.1], ra.2.2 && (rb.2.2 && true)) ∧ notStar a = true ∧ notStar b = true := by
  unfold compRs at h
  split at h
  · rename_i hs
    obtain ⟨ra, h1, h2⟩ := Option.bind_eq_some_iff.mp h
    obtain ⟨s, h3, h4⟩ := Option.bind_eq_some_iff.mp h2
    obtain ⟨rb, e1, rfl, hs2⟩ := compRs_one h3
    obtain ⟨hq, rfl⟩ := ite_some h4
    refine ⟨ra, rb, h1, e1, fun z => ?_, rfl, hs, hs2⟩
    have := hq z
    simpa using this
  · cases h
theorem methOf_ok {x : Str} {m : MK} (h : methOf x = some m) : (x = ("find" : Str) ∧ m = .find) ∨ (x = ("join" : Str) ∧ m = .join) := by
  unfold methOf at h
  by_cases e : x = ("find" : Str)
  · rw [if_pos e] at h; cases h; exact .inl ⟨e, rfl⟩
  · rw [if_neg e] at h
    obtain ⟨e2, rfl⟩ := ite_some h
    exact .inr ⟨e2, rfl⟩
theorem compE_ok : ∀ n : Nat, HE cf xr (compE n) := by
  intro n
  induction n with
  | zero => intro C X W R0 e r c h; cases h
  | succ n ih =>
    intro C X W R0 e r c h
    unfold GE
    unfold compE at h
    split at h
    · -- a constant
      obtain ⟨d, h1, rfl⟩ := Option.map_eq_some_iff.mp h
      obtain ⟨v, p1, p2, p3⟩ := con_ok (X := X) h1
      rw [evE_con]
      exact x_con p1 p2 fun _ => p3
    · -- a name
      split at h
      · rename_i i hs
        obtain ⟨hm, rfl⟩ := ite_some h
        rw [evE_var]
        exact x_var (slot_pe c hs) hm
      · split at h
        · rename_i hg
          obtain ⟨g, h1, h2⟩ := Option.bind_eq_some_iff.mp h
          have hx := by simpa using List.find?_some h1
          have hmem := List.mem_of_find?_eq_some h1
          split at h2
          · cases h2
          · rename_i hm
            cases h2
            have hm : isMut g.2 = false := by simpa using hm
            obtain ⟨v, u, m1, m2, m3⟩ := c.gs g hmem hm
            rw [hx] at m1
            obtain ⟨g1, g2, _⟩ := gl_ok c hg
            rw [evE_glob]
            exact x_con (pe_glob g1 m1 m2 g2) m3 fun _ => hm
        · cases h
    · -- a op b
      obtain ⟨k, h1, h2⟩ := Option.bind_eq_some_iff.mp h
      obtain ⟨ra, h3, h4⟩ := Option.bind_eq_some_iff.mp h2
      obtain ⟨rb, h5, h6⟩ := Option.bind_eq_some_iff.mp h4
      obtain ⟨hq, rfl⟩ := ite_some h6
      obtain ⟨fr, o1, o2⟩ := bin_ok (X := X) h1
      rw [evE_bin]
      exact x_bin o1 (compR_ok ih c h3) (compR_ok ih c h5) hq (fun _ => o2) fl2_bor
    · -- not a
      obtain ⟨ra, h1, rfl⟩ := Option.map_eq_some_iff.mp h
      rw [evE_not]
      exact x_not (compR_ok ih c h1) fl2_bor
    · -- -a
      obtain ⟨ra, h1, rfl⟩ := Option.map_eq_some_iff.mp h
      rw [evE_neg]
      exact x_neg (ih C X W R0 _ ra c h1) fl2_bor
    · obtain ⟨ra, h1, rfl⟩ := Option.map_eq_some_iff.mp h
      rw [evE_and]
      exact (compBs_and ih c h1).1
    · obtain ⟨ra, h1, rfl⟩ := Option.map_eq_some_iff.mp h
      rw [evE_or]
      exact (compBs_or ih c h1).1
    · -- a if c else b
      obtain ⟨rc, h1, h2⟩ := Option.bind_eq_some_iff.mp h
      obtain ⟨ra, h3, h4⟩ := Option.bind_eq_some_iff.mp h2
      obtain ⟨rb, h5, rfl⟩ := Option.map_eq_some_iff.mp h4
      rw [evE_ite]
      have pa := ih C X W R0 _ ra c h3
      have pb := ih C X W R0 _ rb c h5
      have pc := compT_ok (R0 := R0) ih c n h1
      cases ea : ra.2.1 with
      | false =>
        unfold GE at pa
        rw [ea] at pa
        exact x_ite pc pa (x_weak pb fl2_bor id)
      | true =>
        cases eb : rb.2.1 with
        | false =>
          unfold GE at pb
          rw [eb] at pb
          exact x_ite pc (x_weak pa fl2_bor id) pb
        | true =>
          unfold GE at pa pb
          rw [ea] at pa
          rw [eb] at pb
          exact x_ite pc pa pb
    · obtain ⟨ra, h1, h2⟩ := Option.bind_eq_some_iff.mp h
      obtain ⟨rb, h3, h4⟩ := Option.bind_eq_some_iff.mp h2
      obtain ⟨hq, rfl⟩ := ite_some h4
      rw [evE_cmp]
      exact x_cmp (cmp_ok c.hu _) (compR_ok ih c h1) (compR_ok ih c h3) hq.1 (fun _ => rfl) fl2_bor (mark_ok hq.2)
    · obtain ⟨ra, h1, h2⟩ := Option.bind_eq_some_iff.mp h
      obtain ⟨rb, h3, h4⟩ := Option.bind_eq_some_iff.mp h2
      obtain ⟨rc, h5, h6⟩ := Option.bind_eq_some_iff.mp h4
      obtain ⟨hq, rfl⟩ := ite_some h6
      rw [evE_chain]
      exact x_chain (cmp_ok c.hu _) (cmp_ok c.hu _) (compR_ok ih c h1) (compR_ok ih c h3) (compR_ok ih c h5) hq.1 hq.2.1 fl2_bor (mark2_ok hq.2.2)
    · -- (a, ..)
      split at h
      · rename_i hl
        obtain ⟨ra, h1, rfl⟩ := Option.map_eq_some_iff.mp h
        obtain ⟨a1, a2, _⟩ := compL_ok (R0 := R0) ih c h1
        rw [evE_tup]
        exact x_tup a1 fun ρ ds ρ' e => by rw [evEs_len e, a2]; exact Nat.le_trans hl (by decide)
      · cases h
    · split at h
      · rename_i hl
        obtain ⟨ra, h1, rfl⟩ := Option.map_eq_some_iff.mp h
        obtain ⟨a1, a2, _⟩ := compL_ok (R0 := R0) ih c h1
        rw [evE_lst]
        exact x_lst a1 (fun ρ ds ρ' e => by rw [evEs_len e, a2]; exact Nat.le_trans hl (by decide)) fl2_bor
      · cases h
    · -- a[::-1]
      obtain ⟨ra, h1, rfl⟩ := Option.map_eq_some_iff.mp h
      rw [evE_rev]
      exact x_rev (compR_ok ih c h1) fl2_bor
    · -- a[lo:hi]
      obtain ⟨ra, h1, h2⟩ := Option.bind_eq_some_iff.mp h
      obtain ⟨rl, h3, h4⟩ := Option.bind_eq_some_iff.mp h2
      obtain ⟨rh, h5, h6⟩ := Option.bind_eq_some_iff.mp h4
      obtain ⟨hq, rfl⟩ := ite_some h6
      obtain ⟨gl, l1, l2⟩ := compP_ok (R0 := R0) ih c h3
      obtain ⟨gh, g1, g2⟩ := compP_ok (R0 := R0) ih c h5
      have e : evE cf (.slice ra.1 rl.1 rh.1) = fun ρ => (evE cf ra.1 ρ).bind fun x ρ => (gl ρ).bind fun l ρ => (gh ρ).bind fun h ρ => lift (opSlice x (toPart l) (toPart h)) ρ := by
        funext ρ
        rw [evE]
        congr 1
        funext x ρ1
        rw [l2 ρ1 fun l ρ => (evE cf rh.1 ρ).bind fun h ρ => if partOk rh.1 h then lift (opSlice x l h) ρ else .stuck]
        congr 1
        funext l ρ2
        exact g2 ρ2 fun h ρ => lift (opSlice x (toPart l) h) ρ
      rw [e]
      exact x_slice (compR_ok ih c h1) l1 g1 (fun z => by have := hq z; rwa [Bool.and_eq_true] at this) fl2_bor
    · -- a[b]
      split at h
      · rename_i hs
        obtain ⟨ra, h1, h2⟩ := Option.bind_eq_some_iff.mp h
        obtain ⟨rb, h3, h4⟩ := Option.bind_eq_some_iff.mp h2
        obtain ⟨hq, rfl⟩ := ite_some h4
        rw [evE_sub]
        exact x_sub (compR_ok ih c h1) (compR_ok ih c h3) hq (ix_ok hs)
      · cases h
    · -- f(..)
      rename_i x p args pos
      split at h
      · rename_i fe hfe
        obtain ⟨ra, h1, h2⟩ := Option.bind_eq_some_iff.mp h
        obtain ⟨ha, rfl⟩ := ite_some h2
        unfold Ck.fnOf at hfe
        split at hfe
        · rename_i hg
          have hx : fe.name = x := by simpa using List.find?_some hfe
          have hmem := List.mem_of_find?_eq_some hfe
          obtain ⟨k, f, fd, ps, F, hr, hm, hk, hb⟩ := c.fns fe hmem
          rw [hx] at hm
          obtain ⟨g1, g2, _⟩ := gl_ok c hg
          obtain ⟨a1, a2, a3⟩ := compA_ok (R0 := R0) ih c h1
          rw [evE_call]
          have hq : (ra.2 && !fe.ms.contains .io) = true → ra.2 = true ∧ PM.io ∉ fe.ms := fun z => by
            rw [Bool.and_eq_true, Bool.not_eq_true'] at z
            exact ⟨z.1, fun w => by rw [List.contains_iff_mem.mpr w] at z; cases z.2⟩
          cases args with
          | nil =>
            have hn : ra.1 = [] := List.length_eq_zero_iff.mp a2
            rw [hn] at ha ⊢
            rw [evEs_nil]
            exact x_call0 F hr g1 hm hk hb (fun σ => passAt c.tk σ) ha fl2_fresh fl2_bor (fun z => (hq z).2) g2
          | cons e es =>
            rw [List.all_cons, Bool.and_eq_true] at a3
            exact x_call F hr g1 hm hk hb (fun σ => passAt c.tk σ) a1 ha fl2_fresh fl2_bor hq g2 (star_ok a3.1) (back_any a3.2)
        · cases hfe
      · split at h
        · rename_i hg
          obtain ⟨g1, g2, g3⟩ := gl_ok c hg
          by_cases hx : x = ("isinstance" : Str)
          · rw [if_pos hx] at h
            subst hx
            split at h
            · rename_i a t p2
              obtain ⟨k, h1, h2⟩ := Option.bind_eq_some_iff.mp h
              split at h2
              · rename_i hg2
                rw [Bool.and_eq_true] at hg2
                obtain ⟨ra, h3, rfl⟩ := Option.map_eq_some_iff.mp h2
                obtain ⟨rfl, hmem⟩ := tyOf_ok h1
                rw [evE_isi]
                exact x_isi (compR_ok ih c h3) g1 (c.blt _ (by decide +kernel)) (gl_ok c hg2.1).1 (c.blt _ hmem) fl2_bor (star_ok hg2.2)
              · cases h2
            · cases h
          · rw [if_neg hx] at h
            by_cases hr : x = ("list" : Str) ∧ C.gl ("range" : Str) = true ∧ (rngArg args).isSome = true
            · rw [if_pos hr] at h
              obtain ⟨rs, h1, h2⟩ := Option.bind_eq_some_iff.mp h
              obtain ⟨ra, h3, rfl⟩ := Option.map_eq_some_iff.mp h2
              obtain ⟨rfl, hr2, _⟩ := hr
              obtain ⟨q1, q2, rfl, hl⟩ := rngArg_ok h1
              have gr := (gl_ok c hr2).1
              have ml := c.blt "list" (by decide +kernel)
              have mr := c.blt "range" (by decide +kernel)
              rcases hl with hl | hl
              · match rs, hl with
                | [a], _ =>
                  obtain ⟨rx, e1, rfl, s1⟩ := compRs_one h3
                  rw [rng_list1]
                  dsimp only
                  rw [Bool.and_true]
                  exact x_listRg1 c.calm g1 ml gr mr (compR_ok ih c e1) (by decide) (star_ok s1) (star_ok rfl)
              · match rs, hl with
                | [a, b], _ =>
                  obtain ⟨rx, ry, e1, e2, hq, rfl, s1, s2⟩ := compRs_two h3
                  rw [rng_list2]
                  dsimp only
                  rw [Bool.and_true]
                  exact x_listRg2 c.calm g1 ml gr mr (compR_ok ih c e1) (compR_ok ih c e2) hq (by decide) (star_ok s1) (star_ok s2) (back_any (by rw [List.all_cons, s2]; rfl)) (star_ok rfl)
            · rw [if_neg hr] at h
              split at h
              · rename_i b hb
                obtain ⟨ra, h1, rfl⟩ := Option.map_eq_some_iff.mp h
                obtain ⟨b1, b2, id, b3, b4⟩ := blt_ok c hb
                obtain ⟨a1, a2, a3⟩ := compRs_ok (R0 := R0) ih c h1
                rw [evE_bi]
                cases args with
                | nil => exact absurd b2 (by decide)
                | cons e es =>
                  rw [List.all_cons, Bool.and_eq_true] at a3
                  exact x_callB b3 g1 (c.blt _ b1) b4 a1 (fun _ => rfl) fl2_bor g3 g2 (star_ok a3.1) (back_any a3.2)
              · rename_i b hb
                obtain ⟨ra, h1, rfl⟩ := Option.map_eq_some_iff.mp h
                obtain ⟨b1, b2, id, b3, b4⟩ := blt_ok c hb
                obtain ⟨a1, a2, a3⟩ := compRs_ok (R0 := R0) ih c h1
                rw [evE_bi]
                cases args with
                | nil => exact absurd b2 (by decide)
                | cons e es =>
                  rw [List.all_cons, Bool.and_eq_true] at a3
                  exact x_callTy b3 g1 (c.blt _ b1) b4 a1 (fun _ => rfl) fl2_bor g3 g2 (star_ok a3.1) (back_any a3.2)
              · cases h
        · cases h
    · -- a method
      split at h
      · rename_i hs
        rw [Bool.and_eq_true, Bool.and_eq_true] at hs
        obtain ⟨m, h1, h2⟩ := Option.bind_eq_some_iff.mp h
        obtain ⟨ro, h3, h4⟩ := Option.bind_eq_some_iff.mp h2
        obtain ⟨ra, h5, rfl⟩ := Option.map_eq_some_iff.mp h4
        rw [evE_meth]
        rcases methOf_ok h1 with ⟨rfl, rfl⟩ | ⟨rfl, rfl⟩
        · exact x_methS PySem.F.slot_str_find PySem.F.type_str_find mt_find (fun d hd => by cases d <;> first | exact ⟨_, rfl⟩ | cases hd) find_op find_flat (compR_ok ih c h3) (compR_ok ih c h5) (star_ok hs.1.2) (base_ok hs.1.1) (few_ok hs.1.2) hs.2 rfl
        · exact x_methS PySem.F.slot_str_join PySem.F.type_str_join mt_join (fun d hd => by cases d <;> first | exact ⟨_, rfl⟩ | cases hd) join_op join_flat (compR_ok ih c h3) (compR_ok ih c h5) (star_ok hs.1.2) (base_ok hs.1.1) (few_ok hs.1.2) hs.2 rfl
      · cases h
    · -- a comprehension
      obtain ⟨ra, h1, rfl⟩ := Option.map_eq_some_iff.mp h
      obtain ⟨M', own, t, qi, qt, qe, fe, gi, gt, ge, e1, e2, pi, ok, mw, hv, htv, hfe, hg, ht, he, hs⟩ := (compC_ok (R0 := R0) ih c h1).ex
      rw [e2]
      dsimp only
      rw [e1]
      exact x_comp c.calm (by rw [c.N]; exact c.nd) pi ok mw hv htv hfe (by decide) hg ht he hs
    · cases h
end
end Ev
end -- EvD5

section -- EvD6
set_option Elab.async false
set_option linter.all false
set_option maxRecDepth 100000
set_option maxHeartbeats 2000000
/-! EvD6: statements: side conditions, equations. -/
namespace Ev
open PySem PySem.Spec PyProof.Rows L2
section
variable {cf : CF} {xr : XR} {C : Ck} {X : Cx} {W : WX} {R0 : Addr → Prop}
theorem blockKind_ok (c : CtxOk cf xr C X W) : X.env.blockKind = .function := by
  unfold Env.blockKind
  rw [c.sc, c.kind]
  rfl
theorem sw_none (c : CtxOk cf xr C X W) {ts vs : List Expr} {k k2 : Nat} {p p2 : Pos} (h : (vs.all (foldedForSure 8) || !(ts.length == 2 || ts.length == 3) || notAll C ts) = true) : swappedStores [.Tuple ts k p] (.Tuple vs k2 p2) X.env = pure none := by
  unfold notAll at h
  rw [← c.sc] at h
  unfold swappedStores
  dsimp only
  split
  · rfl
  · rename_i h1
    split
    · rfl
    · split
      · rfl
      · rename_i h3
        split
        · rfl
        · rename_i h4
          exfalso
          rw [Bool.or_eq_true, Bool.or_eq_true] at h
          rcases h with (h | h) | h
          · exact h4 h
          · exact h1 (by rw [h]; rfl)
          · exact h3 (by rw [Bool.or_eq_true]; exact .inl h)
theorem sw_none2 {ts : List Expr} {k : Nat} {p : Pos} {v : Expr} (hv : ∀ vs k p, v ≠ .Tuple vs k p) {env : PySem.Env} : swappedStores [.Tuple ts k p] v env = pure none := by
  cases v <;> first | rfl | exact absurd rfl (hv _ _ _)
theorem sw_some2 (c : CtxOk cf xr C X W) {x y : Str} {px py p p2 : Pos} {k k2 : Nat} {a b : Expr} (h : parB C [(x, px), (y, py)] [a, b] = true) : swappedStores [.Tuple [.Name x px, .Name y py] k p] (.Tuple [a, b] k2 p2) X.env = pure (some [x, y]) ∧ C.sc.names.lookup x = some .local ∧ C.sc.names.lookup y = some .local ∧ x ≠ y ∧ notStar a = true ∧ notStar b = true := by
  unfold parB at h
  simp only [Bool.and_eq_true, decide_eq_true_eq, List.all_cons, List.all_nil, Bool.not_eq_true', List.map_cons, List.map_nil, List.nodup_cons, List.head?_cons, Option.map_some, Option.getD_some, beq_iff_eq, List.mem_singleton, List.not_mem_nil] at h
  obtain ⟨⟨⟨⟨⟨⟨hk, _⟩, ⟨hx, _⟩, ⟨hy, hl⟩, _⟩, hne, _⟩, ⟨sa, sb, _⟩⟩, hf⟩, hc⟩ := h
  refine ⟨?_, hx, hy, hne, sa, sb⟩
  have kx : X.env.kindOf x = some .local := by unfold Env.kindOf; rw [c.sc]; exact hx
  have ky : X.env.kindOf y = some .local := by unfold Env.kindOf; rw [c.sc]; exact hy
  have bk := blockKind_ok c
  unfold swappedStores
  dsimp only
  rw [if_neg (by rw [bk]; exact Bool.false_ne_true)]
  split
  · rename_i h2
    exfalso
    simp only [List.any_cons, List.any_nil, Bool.or_false, Bool.or_eq_true] at h2
    rcases h2 with h2 | h2
    · revert h2; cases a <;> first | (intro h2; cases h2; done) | (cases sa; done) | (intro h2; exact Bool.false_ne_true h2)
    · revert h2; cases b <;> first | (intro h2; cases h2; done) | (cases sb; done) | (intro h2; exact Bool.false_ne_true h2)
  · simp only [List.filterMap_cons, List.filterMap_nil, kx, ky, Expr.pos, List.head?_cons, Option.map_some, Option.getD_some, beq_self_eq_true, Bool.true_and, hl, if_true]
    rw [if_neg (by simp [List.eraseDups_cons, Ne.symm hne])]
    have hf' : ¬ ([a, b].all (foldedForSure 8)) = true := by simp only [List.all_cons, List.all_nil]; rw [hf]; decide
    have hc' : ¬ ([a, b].all (constantsAlone 8)) = true := by simp only [List.all_cons, List.all_nil]; rw [hc]; decide
    rw [if_neg hf', if_neg hc']
theorem sw_some3 (c : CtxOk cf xr C X W) {x y z : Str} {px py pz p p2 : Pos} {k k2 : Nat} {a b d : Expr} (h : parB C [(x, px), (y, py), (z, pz)] [a, b, d] = true) : swappedStores [.Tuple [.Name x px, .Name y py, .Name z pz] k p] (.Tuple [a, b, d] k2 p2) X.env = pure (some [x, y, z]) ∧ C.sc.names.lookup x = some .local ∧ C.sc.names.lookup y = some .local ∧ C.sc.names.lookup z = some .local ∧ (x ≠ y ∧ x ≠ z ∧ y ≠ z) ∧ notStar a = true ∧ notStar b = true ∧ notStar d = true := by
  unfold parB at h
  simp only [Bool.and_eq_true, decide_eq_true_eq, List.all_cons, List.all_nil, Bool.not_eq_true', List.map_cons, List.map_nil, List.nodup_cons, List.head?_cons, Option.map_some, Option.getD_some, beq_iff_eq, List.mem_singleton, List.not_mem_nil] at h
  obtain ⟨⟨⟨⟨⟨⟨hk, _⟩, ⟨hx, _⟩, ⟨hy, hl⟩, ⟨hz, hl2⟩, _⟩, hne, hne2, _⟩, ⟨sa, sb, sd, _⟩⟩, hf⟩, hc⟩ := h
  simp only [List.mem_cons, List.not_mem_nil, or_false, not_or] at hne
  refine ⟨?_, hx, hy, hz, ⟨hne.1, hne.2, hne2⟩, sa, sb, sd⟩
  have kx : X.env.kindOf x = some .local := by unfold Env.kindOf; rw [c.sc]; exact hx
  have ky : X.env.kindOf y = some .local := by unfold Env.kindOf; rw [c.sc]; exact hy
  have kz : X.env.kindOf z = some .local := by unfold Env.kindOf; rw [c.sc]; exact hz
  have bk := blockKind_ok c
  unfold swappedStores
  dsimp only
  rw [if_neg (by rw [bk]; exact Bool.false_ne_true)]
  split
  · rename_i h2
    exfalso
    simp only [List.any_cons, List.any_nil, Bool.or_false, Bool.or_eq_true] at h2
    rcases h2 with h2 | h2 | h2
    · revert h2; cases a <;> first | (intro h2; cases h2; done) | (cases sa; done) | (intro h2; exact Bool.false_ne_true h2)
    · revert h2; cases b <;> first | (intro h2; cases h2; done) | (cases sb; done) | (intro h2; exact Bool.false_ne_true h2)
    · revert h2; cases d <;> first | (intro h2; cases h2; done) | (cases sd; done) | (intro h2; exact Bool.false_ne_true h2)
  · simp only [List.filterMap_cons, List.filterMap_nil, kx, ky, kz, Expr.pos, List.head?_cons, Option.map_some, Option.getD_some, beq_self_eq_true, Bool.true_and, hl, hl2, if_true]
    rw [if_neg (by simp [List.eraseDups_cons, Ne.symm hne.1, Ne.symm hne.2, Ne.symm hne2])]
    have hf' : ¬ ([a, b, d].all (foldedForSure 8)) = true := by simp only [List.all_cons, List.all_nil]; rw [hf]; decide
    have hc' : ¬ ([a, b, d].all (constantsAlone 8)) = true := by simp only [List.all_cons, List.all_nil]; rw [hc]; decide
    rw [if_neg hf', if_neg hc']
end
end Ev
end -- EvD6

section -- EvD7
set_option Elab.async false
set_option linter.all false
set_option maxRecDepth 100000
set_option maxHeartbeats 4000000
/-! EvD7: the compiled statements are right. -/
namespace Ev
open PySem PySem.Spec PyProof.Rows L2
section
variable {cf : CF} {wf : Nat}
theorem evS_asg {t : T} {e : E} : evS cf wf (.asg t e) = fun ρ => (evE cf e ρ).toS fun d ρ => match bindT t d ρ with
      | some ρ => .next ρ
      | none => .stuck := by funext ρ; rw [evS]; try rfl
theorem evS_asgO {i : Nat} {e : E} : evS cf wf (.asgO i e) = fun ρ => (evE cf e ρ).toS fun d ρ => if isMut d then .next (ρ.set i (some d)) else .stuck := by funext ρ; rw [evS]
theorem evS_asgM {i j : Nat} : evS cf wf (.asgM i j) = fun ρ => match gv ρ j with
      | some d => .next ((ρ.set j none).set i (some d))
      | none => .stuck := by funext ρ; rw [evS]; try rfl
theorem evS_par {is : List Nat} {es : List E} : evS cf wf (.par is es) = fun ρ => (evEs cf es ρ).toS fun ds ρ => .next (putAll is ds ρ) := by funext ρ; rw [evS]
theorem evS_aug {i : Nat} {k : BinK} {e : E} : evS cf wf (.aug i k e) = fun ρ => match gv ρ i with
      | some (.int a) => (evE cf e ρ).toS fun y ρ => match y with
        | .int b => match opBin k (.int a) (.int b) with
          | some z => .next (ρ.set i (some z))
          | none => .stuck
        | _ => .stuck
      | _ => .stuck := by funext ρ; rw [evS]; try rfl
theorem evS_setI {i : Nat} {k e : E} : evS cf wf (.setI i k e) = fun ρ => (evE cf e ρ).toS fun y ρ => match gv ρ i with
      | some (.lst _) => (evE cf k ρ).toS fun k ρ => match gv ρ i with
        | none => .stuck
        | some a => match opSet a k y with
          | some b => .next (ρ.set i (some b))
          | none => .stuck
      | _ => .stuck := by funext ρ; rw [evS]; try rfl
theorem evS_append {i : Nat} {e : E} : evS cf wf (.append i e) = fun ρ => match gv ρ i with
      | some (.lst _) => (evE cf e ρ).toS fun y ρ => match gv ρ i with
        | some (.lst xs) => if xs.length < LIM then .next (ρ.set i (some (.lst (xs ++ [y])))) else .stuck
        | _ => .stuck
      | _ => .stuck := by funext ρ; rw [evS]; try rfl
theorem evS_expr {e : E} : evS cf wf (.expr e) = fun ρ => (evE cf e ρ).toS fun _ ρ => .next ρ := by funext ρ; rw [evS]
theorem evS_ret {e : E} : evS cf wf (.ret e) = fun ρ => (evE cf e ρ).toS fun d ρ => .ret d ρ := by funext ρ; rw [evS]
theorem evS_retM {i : Nat} : evS cf wf (.retM i) = fun ρ => match gv ρ i with
      | some d => .ret d ρ
      | none => .stuck := by funext ρ; rw [evS]; try rfl
theorem evS_retN : evS cf wf .retN = fun ρ => .ret .non ρ := by funext ρ; rw [evS]
theorem evS_ite {c : E} {a b : List S} : evS cf wf (.ite c a b) = fun ρ => (tr (evE cf c) ρ).toS fun t ρ => if t then evSs cf wf a ρ else evSs cf wf b ρ := by funext ρ; rw [evS]; try rfl
theorem evS_whil {c : E} {b : List S} : evS cf wf (.whil c b) = fun ρ => whileLoop (tr (evE cf c)) (evSs cf wf b) wf ρ := by funext ρ; rw [evS]; try rfl
theorem evS_for {t : T} {it : E} {b : List S} : evS cf wf (.for_ t it b) = fun ρ => (evI cf it ρ).toS fun xs ρ => forLoop (forStep t (evSs cf wf b)) xs ρ := by
  funext ρ
  rw [evS]
  unfold evI forStep
  cases evE cf it ρ with
  | ok x ρ0 =>
    dsimp only [Out.bind, Out.toS]
    cases itemsD x with
    | none => rfl
    | some xs => rfl
  | exc c p ρ0 => rfl
  | stuck => rfl
theorem evS_pass : evS cf wf .pass = fun ρ => .next ρ := by funext ρ; rw [evS]
theorem evS_brk : evS cf wf .brk = fun ρ => .brk ρ := by funext ρ; rw [evS]
theorem evS_cont : evS cf wf .cont = fun ρ => .cont ρ := by funext ρ; rw [evS]
theorem evSs_nil : evSs cf wf [] = fun ρ => .next ρ := by funext ρ; rw [evSs]
theorem evSs_cons {s : S} {ss : List S} : evSs cf wf (s :: ss) = fun ρ => (evS cf wf s ρ).then (evSs cf wf ss) := by funext ρ; rw [evSs]
end
section
variable {cf : CF} {wf : Nat} {xr : XR} {C : Ck} {X : Cx} {W : WX} {R0 : Addr → Prop}
theorem CtxOk.withM (c : CtxOk cf xr C X W) (M' : List Mode) : CtxOk cf xr { C with M := M' } X W := ⟨c.N, c.nd, c.sc, c.kind, c.calm, c.st, c.tk, c.hu, c.xo, c.fns, c.gs, c.blt⟩
theorem compSs_ok (f : Stmt → Option S) (hf : ∀ s t, f s = some t → PS X s (tS X.K R0 C.M xr W C.fresh (evS cf wf t))) : ∀ {ss : List Stmt} {ts : List S}, compS.compSs f ss = some ts → PSs X ss (tS X.K R0 C.M xr W C.fresh (evSs cf wf ts))
  | [], ts, h => by cases h; rw [evSs_nil]; exact s_nil
  | s :: ss, ts, h => by
    unfold compS.compSs at h
    obtain ⟨a, h1, h2⟩ := Option.bind_eq_some_iff.mp h
    obtain ⟨ts', h3, rfl⟩ := Option.map_eq_some_iff.mp h2
    rw [evSs_cons]
    exact s_cons (hf s a h1) (compSs_ok f hf h3)
theorem into_ok {i : Nat} {c : E} {ok : Bool} {s : S} (h : intoB C i c ok = some s) : (md C.M i = .shr ∧ s = .asg (.name i) c) ∨ (md C.M i = .own ∧ ok = true ∧ s = .asgO i c) := by
  unfold intoB at h
  split at h
  · rename_i e; cases h; exact .inl ⟨e, rfl⟩
  · rename_i e
    obtain ⟨e2, rfl⟩ := ite_some h
    exact .inr ⟨e, e2, rfl⟩
  · cases h
theorem compE_lc {n : Nat} {elt : Expr} {gs : List Comprehension} {scope : Scope} {pos : Pos} {r : RE} (h : compE n C (.ListComp elt gs scope pos) = some r) : ∃ m tg iter ifs, gs = [⟨tg, iter, ifs, 0⟩] ∧ ∃ rc, compC (compE m) m C elt tg iter ifs scope = some rc ∧ r = (rc.1, true, rc.2) := by
  cases n with
  | zero => cases h
  | succ m =>
    unfold compE at h
    split at h <;> first
      | (rename_i e; cases e; done)
      | skip
    · rename_i e
      cases e
      obtain ⟨rc, h1, rfl⟩ := Option.map_eq_some_iff.mp h
      exact ⟨m, _, _, _, rfl, rc, h1, rfl⟩
    · cases h
/-- a value into a name -/
theorem asg_ok (c : CtxOk cf xr C X W) {n i : Nat} {x : Str} {px spos : Pos} {v : Expr} {r : RE} {s : S} (hs : C.slot x = some i) (hst : C.st x = true) (h : compE n C v = some r) (hi : intoB C i r.1 (r.2.1 && r.2.2) = some s) :
    PS X (.Assign [.Name x px] v spos) (tS X.K R0 C.M xr W C.fresh (evS cf wf s)) := by
  obtain ⟨l1, l2⟩ := st_ok c hst
  have hN : X.N.Nodup := by rw [c.N]; exact c.nd
  have pe := compE_ok (cf := cf) (xr := xr) n C X W R0 v r c h
  have gen : swapsWith v (some (.Name x px)) spos.line X.env = pure false → PS X (.Assign [.Name x px] v spos) (tS X.K R0 C.M xr W C.fresh (evS cf wf s)) := fun hsw => by
    rcases into_ok hi with ⟨hm, rfl⟩ | ⟨hm, ok, rfl⟩
    · rw [evS_asg]
      exact s_set c.xo pe fl2_bor hm hN (slot_ok c hs).1 l1 l2 hsw
    · rw [evS_asgO]
      rw [Bool.and_eq_true] at ok
      unfold GE at pe
      rw [ok.1, ok.2] at pe
      exact s_asgO c.xo pe hm hN (slot_ok c hs).1 l1 l2 hsw
  by_cases hv : notComp v = true
  · exact gen (sw_no hv)
  · cases v with
    | ListComp elt gs scope cpos =>
      obtain ⟨m, tg, iter, ifs, rfl, rc, h1, rfl⟩ := compE_lc h
      have e : swapsWith (.ListComp elt [⟨tg, iter, ifs, 0⟩] scope cpos) (some (.Name x px)) spos.line X.env = pure (X.env.blockKind == .function && X.env.kindOf x == some .local && px.line == cpos.line && !(scope.names.any fun (n, k) => n == x && (k == .local || k == .cell))) := rfl
      cases hb : (X.env.blockKind == .function && X.env.kindOf x == some .local && px.line == cpos.line && !(scope.names.any fun (n, k) => n == x && (k == .local || k == .cell))) with
      | false => exact gen (by rw [e, hb])
      | true =>
        rw [hb] at e
        rw [Bool.and_eq_true, Bool.and_eq_true, Bool.and_eq_true] at hb
        have hyl : X.env.scope.names.lookup x = some .local := by simpa [Env.kindOf] using hb.1.1.2
        obtain ⟨M', own, t, qi, qt, qe, fe, gi, gt, ge, e1, e2, pi, ok, mw, hv, htv, hfe, hg, ht, he, hsf⟩ := (compC_ok (R0 := R0) (compE_ok m) c h1).ex
        rcases into_ok hi with ⟨hm, rfl⟩ | ⟨hm, okq, rfl⟩
        · rw [evS_asg]
          dsimp only
          rw [e2]
          exact s_setLc c.xo c.calm hN (slot_ok c hs).1 hyl hm e pi ok mw hv htv hfe hg ht he hsf
        · rw [evS_asgO]
          dsimp only at okq ⊢
          rw [e2]
          rw [Bool.true_and, e1] at okq
          exact s_setLcO c.xo c.calm hN (slot_ok c hs).1 hyl hm okq e pi ok mw hv htv hfe hg ht he hsf
    | SetComp _ _ _ _ => exfalso; cases n <;> (unfold compE at h; first | (cases h; done) | (split at h <;> first | (rename_i e; cases e; done) | (cases h; done)))
    | DictComp _ _ _ _ _ => exfalso; cases n <;> (unfold compE at h; first | (cases h; done) | (split at h <;> first | (rename_i e; cases e; done) | (cases h; done)))
    | _ => exact absurd rfl hv
theorem compSl_ok (c : CtxOk cf xr C X W) : ∀ {xs : List Str} {is : List Nat}, compSl C xs = some is → is.length = xs.length ∧ ∀ (k : Nat) (x : Str) (i : Nat), xs[k]? = some x → is[k]? = some i → C.slot x = some i
  | [], is, h => by cases h; exact ⟨rfl, fun k x i h => by simp at h⟩
  | y :: ys, is, h => by
    unfold compSl at h
    obtain ⟨j, h1, h2⟩ := Option.bind_eq_some_iff.mp h
    obtain ⟨js, h3, rfl⟩ := Option.map_eq_some_iff.mp h2
    obtain ⟨i1, i2⟩ := compSl_ok c h3
    refine ⟨by simp [i1], fun k x i e1 e2 => ?_⟩
    cases k with
    | zero => simp at e1 e2; subst e1 e2; exact h1
    | succ k => exact i2 k x i (by simpa using e1) (by simpa using e2)
theorem fit_ok {i : Nat} {r : RE} (h : fitM C i r = true) : ParOk C.M i r.2.2 (fl2 r.2.1) (evE cf r.1) := by
  unfold fitM at h
  split at h
  · rename_i e; exact .inl ⟨e, fl2_bor⟩
  · rename_i e
    rw [Bool.and_eq_true, Bool.and_eq_true] at h
    refine .inr ⟨e, h.1.2, by rw [h.1.1]; rfl, fun ρ d ρ' ed => ?_⟩
    have h3 := h.2
    split at h3
    · rename_i es e2
      rw [e2, evE_lst] at ed
      dsimp only at ed
      cases e4 : evEs cf es ρ with
      | ok ds ρ1 => rw [e4] at ed; cases ed; exact ⟨ds, rfl⟩
      | exc _ _ _ => rw [e4] at ed; cases ed
      | stuck => rw [e4] at ed; cases ed
    · rename_i el t it ifs own e2
      rw [e2, evE_comp] at ed
      dsimp only at ed
      cases e4 : evI cf it ρ with
      | ok xs ρ1 =>
        rw [e4] at ed
        dsimp only [Out.bind] at ed
        unfold compO at ed
        split at ed
        · cases ed; exact ⟨_, rfl⟩
        · cases ed
      | exc _ _ _ => rw [e4] at ed; cases ed
      | stuck => rw [e4] at ed; cases ed
    · cases h3
  · cases h
theorem compW_ok (c : CtxOk cf xr C X W) {n : Nat} : ∀ {is : List Nat} {es : List Expr} {cs : List E}, compW (compE n C) C is es = some cs → PA X es (tW X.K C.M xr W is (evEs cf cs)) ∧ is.length = es.length
  | [], [], cs, h => by cases h; rw [evEs_nil]; exact ⟨w_nil, rfl⟩
  | [], _ :: _, cs, h => by cases h
  | _ :: _, [], cs, h => by cases h
  | i :: is, e :: es, cs, h => by
    unfold compW at h
    split at h
    · rename_i hs
      obtain ⟨r, h1, h2⟩ := Option.bind_eq_some_iff.mp h
      split at h2
      · rename_i hf
        obtain ⟨cs', h3, rfl⟩ := Option.map_eq_some_iff.mp h2
        obtain ⟨i1, i2⟩ := compW_ok c h3
        rw [evEs_cons]
        exact ⟨w_cons c.xo (fun R2 => compE_ok n C X W R2 e r c h1) (fit_ok hf) i1 (star_ok hs), by simp [i2]⟩
      · cases h2
    · cases h
theorem slot_ne {i j : Nat} {x y : Str} (c : CtxOk cf xr C X W) (hx : C.slot x = some i) (hy : C.slot y = some j) (h : x ≠ y) : i ≠ j := fun e => by
  subst e
  have h1 := (slot_ok c hx).1
  have h2 := (slot_ok c hy).1
  rw [h1] at h2
  exact h (Option.some.inj h2)
theorem par_ok (c : CtxOk cf xr C X W) {n : Nat} {ts vs : List Expr} {k k2 : Nat} {p p2 spos : Pos} {ns : List (Str × Pos)} {is : List Nat} {cs : List E} (h1 : parNames ts = some ns) (hpar : parB C ns vs = true) (h3 : compSl C (ns.map (·.1)) = some is) (h5 : compW (compE n C) C is vs = some cs) :
    PS X (.Assign [.Tuple ts k p] (.Tuple vs k2 p2) spos) (tS X.K R0 C.M xr W C.fresh (evS cf wf (.par is cs))) := by
  have hN : X.N.Nodup := by rw [c.N]; exact c.nd
  obtain ⟨w1, w2⟩ := compW_ok c h5
  obtain ⟨l1, l2⟩ := compSl_ok c h3
  rw [evS_par]
  unfold parNames at h1
  split at h1
  · rename_i x px y py
    cases h1
    have hl : vs.length = 2 := by rw [← w2, l1]; rfl
    match vs, hl, is, l1, w1, hpar, l2 with
    | [a, b], _, [i, j], _, w1, hpar, l2 =>
      obtain ⟨hw, lx, ly, hne, _, _⟩ := sw_some2 (k := k) (k2 := k2) (p := p) (p2 := p2) c hpar
      have s1 := l2 0 x i rfl rfl
      have s2 := l2 1 y j rfl rfl
      exact s_parN2 c.xo c.calm hN (slot_ok c s1).1 (slot_ok c s2).1 (slot_ne c s1 s2 hne) (by rw [c.sc]; exact lx) (by rw [c.sc]; exact ly) w1 hw rfl
  · rename_i x px y py z pz
    cases h1
    have hl : vs.length = 3 := by rw [← w2, l1]; rfl
    match vs, hl, is, l1, w1, hpar, l2 with
    | [a, b, d], _, [i, j, l], _, w1, hpar, l2 =>
      obtain ⟨hw, lx, ly, lz, ⟨n1, n2, n3⟩, _, _, _⟩ := sw_some3 (k := k) (k2 := k2) (p := p) (p2 := p2) c hpar
      have s1 := l2 0 x i rfl rfl
      have s2 := l2 1 y j rfl rfl
      have s3 := l2 2 z l rfl rfl
      exact s_parN3 c.xo c.calm hN (slot_ok c s1).1 (slot_ok c s2).1 (slot_ok c s3).1 (slot_ne c s1 s2 n1) (slot_ne c s1 s3 n2) (slot_ne c s2 s3 n3) (by rw [c.sc]; exact lx) (by rw [c.sc]; exact ly) (by rw [c.sc]; exact lz) w1 hw rfl
  · cases h1
theorem sole_no {t v : Expr} {l : Nat} {env : PySem.Env} (h : notComp v = true) : swapsWithSole [t] v l env = pure false := by
  have : swapsWith v (some t) l env = pure false := sw_no h
  exact this
theorem aug_of {op : Operator} {k : BinK} (h : augK op = some k) : ∃ f : Int → Int → Int, PIp X op (ipI f) ∧ ∀ a b, opBin k (.int a) (.int b) = some (.int (f a b)) := by
  cases op <;> first | (cases h; done) | (cases h; exact ⟨_, ip_add, fun _ _ => rfl⟩) | (cases h; exact ⟨_, ip_sub, fun _ _ => rfl⟩)
theorem asg_sub {o k : Expr} {p : Pos} {env : PySem.Env} (h : notSlice k = true) (v : Value) : assign (.Subscript o k p) env v = (do
      let ov ← holding [v] (eval o env)
      let iv ← holding [v, ov] (eval k env)
      standAt p
      holding [v, ov, iv] (setItem ov iv v)
      release [v, ov, iv] []) := by
  cases k <;> first | rfl | (cases h; done)
theorem doc_ok {e : Expr} {p : Pos} (h : docOnly e = true) : PS X (.Expr e p) (tS X.K R0 C.M xr W C.fresh fun ρ => .next ρ) := by
  unfold docOnly at h
  split at h
  · exact PS.mono ps_doc fun D σ H ⟨ρ, env, ow, h⟩ => h σ H (.refl env ow)
  · cases h
theorem compS_ok : ∀ (n : Nat) (C : Ck) (X : Cx) (W : WX) (R0 : Addr → Prop) (s : Stmt) (t : S), CtxOk cf xr C X W → PassesOwn (model X.prog X.w) X.A X.env X.xe → compS n C s = some t → PS X s (tS X.K R0 C.M xr W C.fresh (evS cf wf t)) := by
  intro n
  induction n with
  | zero => intro C X W R0 s t c hp h; cases h
  | succ n ih =>
    intro C X W R0 s t c hp h
    have hE : HE cf xr (compE n) := compE_ok n
    have hN : X.N.Nodup := by rw [c.N]; exact c.nd
    unfold compS at h
    split at h
    · cases h; rw [evS_retN]; exact s_retN
    · -- return e
      split at h
      · rename_i i hb
        obtain ⟨hm, rfl⟩ := ite_some h
        rw [evS_retM]
        exact s_retM (bv_ok c hb).2.1 hm
      · obtain ⟨r, h1, h2⟩ := Option.bind_eq_some_iff.mp h
        obtain ⟨hf, rfl⟩ := ite_some h2
        rw [evS_ret]
        exact s_ret c.xo (hE C X W R0 _ r c h1) fl2_bor fun z => by rw [hf z]; rfl
    · -- if
      obtain ⟨rc, h1, h2⟩ := Option.bind_eq_some_iff.mp h
      obtain ⟨sa, h3, h4⟩ := Option.bind_eq_some_iff.mp h2
      obtain ⟨sb, h5, rfl⟩ := Option.map_eq_some_iff.mp h4
      rw [evS_ite]
      exact s_if c.xo (compT_ok hE c n h1) (compSs_ok _ (fun s t h => ih C X W R0 s t c hp h) h3) (compSs_ok _ (fun s t h => ih C X W R0 s t c hp h) h5)
    · -- while
      obtain ⟨rc, h1, h2⟩ := Option.bind_eq_some_iff.mp h
      obtain ⟨sa, h3, rfl⟩ := Option.map_eq_some_iff.mp h2
      rw [evS_whil]
      exact s_while c.xo hp (compT_ok hE c n h1) (compSs_ok _ (fun s t h => ih C X W R0 s t c hp h) h3)
    · -- for
      split at h
      · rename_i hs
        obtain ⟨ri, h1, h2⟩ := Option.bind_eq_some_iff.mp h
        obtain ⟨tt, h3, h4⟩ := Option.bind_eq_some_iff.mp h2
        obtain ⟨sb, h5, rfl⟩ := Option.map_eq_some_iff.mp h4
        obtain ⟨i, e1, pi⟩ := compI_ok (R0 := R0) hE c hs h1
        rw [evS_for]
        have cM := c.withM ri.2.1
        rw [e1] at pi cM h3 h5
        exact s_for c.xo hp c.calm pi (fun R2 => (compTg_ok (R0 := R2) cM n h3).1) (compTg_ok (R0 := R0) cM n h3).2
          (fun R2 => compSs_ok (C := { C with M := borM C.M i }) _ (fun s t h => ih { C with M := borM C.M i } X W R2 s t cM hp h) h5) (fold_ok hs)
      · cases h
    · cases h; rw [evS_pass]; exact s_pass
    · cases h; rw [evS_brk]; exact s_break
    · cases h; rw [evS_cont]; exact s_cont
    · -- name = ..
      obtain ⟨i, h1, h2⟩ := Option.bind_eq_some_iff.mp h
      split at h2
      · rename_i hst
        split at h2
        · rename_i j hb
          obtain ⟨hm, rfl⟩ := ite_some h2
          obtain ⟨⟨x, p, rfl, _⟩, pe, _⟩ := bv_ok c hb
          obtain ⟨l1, l2⟩ := st_ok c hst
          rw [evS_asgM]
          exact s_asgM pe hm.1 hm.2 hN (slot_ok c h1).1 l1 l2 (sw_no rfl)
        · obtain ⟨r, h3, h4⟩ := Option.bind_eq_some_iff.mp h2
          exact asg_ok c h1 hst h3 h4
      · cases h2
    · -- a tuple of names = a tuple
      split at h
      · rename_i hc
        obtain ⟨r, h1, h2⟩ := Option.bind_eq_some_iff.mp h
        obtain ⟨tt, h3, rfl⟩ := Option.map_eq_some_iff.mp h2
        obtain ⟨g1, g2⟩ := compTg_ok (R0 := R0) c n h3
        rw [evS_asg]
        exact s_asg c.xo (hE C X W R0 _ r c h1) fl2_bor g1 g2 rfl (sw_none c hc) rfl
      · obtain ⟨ns, h1, h2⟩ := Option.bind_eq_some_iff.mp h
        split at h2
        · rename_i hpar
          obtain ⟨is, h3, h4⟩ := Option.bind_eq_some_iff.mp h2
          obtain ⟨cs, h5, rfl⟩ := Option.map_eq_some_iff.mp h4
          exact par_ok c h1 hpar h3 h5
        · cases h2
    · -- a tuple of names = ..
      split at h
      · rename_i hv
        obtain ⟨r, h1, h2⟩ := Option.bind_eq_some_iff.mp h
        obtain ⟨tt, h3, rfl⟩ := Option.map_eq_some_iff.mp h2
        obtain ⟨g1, g2⟩ := compTg_ok (R0 := R0) c n h3
        rw [evS_asg]
        refine s_asg c.xo (hE C X W R0 _ r c h1) fl2_bor g1 g2 (sole_no hv) (sw_none2 fun vs k p e => ?_) rfl
        exact (‹∀ (vs : List Expr) (k2 : Nat) (p2 : Pos), _ = Expr.Tuple vs k2 p2 → False›) vs k p e
      · cases h
    · -- name[k] = ..
      split at h
      · rename_i hk
        rw [Bool.and_eq_true, Bool.and_eq_true] at hk
        obtain ⟨i, h1, h2⟩ := Option.bind_eq_some_iff.mp h
        split at h2
        · rename_i hm
          obtain ⟨r, h3, h4⟩ := Option.bind_eq_some_iff.mp h2
          obtain ⟨rk, h5, rfl⟩ := Option.map_eq_some_iff.mp h4
          rw [evS_setI]
          exact s_setI c.xo (bv_ok c h1).2.1 hm (hE C X W R0 _ r c h3) fl2_bor (compR_ok hE c h5) (asg_sub hk.1.1) (sole_no hk.2) (by rfl) rfl
        · cases h2
      · cases h
    · -- name op= ..
      obtain ⟨k, h1, h2⟩ := Option.bind_eq_some_iff.mp h
      obtain ⟨i, h3, h4⟩ := Option.bind_eq_some_iff.mp h2
      split at h4
      · rename_i hm
        rw [Bool.and_eq_true, decide_eq_true_eq] at hm
        obtain ⟨r, h5, rfl⟩ := Option.map_eq_some_iff.mp h4
        obtain ⟨l1, l2⟩ := st_ok c hm.1
        obtain ⟨f, f1, f2⟩ := aug_of (X := X) h1
        rw [evS_aug]
        exact s_augI c.xo f1 f2 (hE C X W R0 _ r c h5) hm.2 hN (slot_ok c h3).1 l1 l2
      · cases h4
    · -- name.append(..)
      split at h
      · rename_i hm
        rw [Bool.and_eq_true, Bool.and_eq_true, decide_eq_true_eq] at hm
        obtain ⟨⟨rfl, hs⟩, hl⟩ := hm
        obtain ⟨i, h1, h2⟩ := Option.bind_eq_some_iff.mp h
        split at h2
        · rename_i ho
          obtain ⟨r, h3, rfl⟩ := Option.map_eq_some_iff.mp h2
          rw [evS_append]
          exact s_append c.xo (bv_ok c h1).2.1 ho (hE C X W R0 _ r c h3) fl2_bor (base_ok rfl) (few_ok hs) hl (star_ok hs) rfl (sw_no rfl)
        · cases h2
      · cases h
    · -- an expression
      split at h
      · rename_i hd
        cases h
        rw [evS_pass]
        exact doc_ok hd
      · split at h
        · rename_i hd
          obtain ⟨r, h3, rfl⟩ := Option.map_eq_some_iff.mp h
          rw [evS_expr]
          exact s_expr c.xo (hE C X W R0 _ r c h3) (sw_no hd)
        · cases h
    · cases h
end
end Ev
end -- EvD7

section -- EvF
set_option Elab.async false
set_option linter.all false
set_option maxRecDepth 100000
set_option maxHeartbeats 2000000
/-! EvF: a def keeps its evaluator's promise. -/
namespace Ev
open PySem PySem.Spec PyProof.Rows L2

def pmM : PM → Mode
  | .shr => .shr
  | .bor => .bor
  | .io => .io
section
variable {K : PySem.W.Frag} {R : Addr → Prop} {H H' : Hp} {ms : List PM} {ds : List D} {vs : List V} {M : List Mode} {N : List Str}
theorem ArgsOk.at : ∀ {ms : List PM} {ds : List D} {vs : List V} {i : Nat} {d : D}, ArgsOk K R H ms ds vs → ds[i]? = some d → ∃ v m, vs[i]? = some v ∧ ms[i]? = some m ∧ SlotOk K R H (pmM m) d v ∧ (m = .io → ∀ a, v = .ref a → R a)
  | _, _, _, i, d, .nil, h => by simp at h
  | _, _, _, 0, d, .shr r t, h => by simp at h; subst h; exact ⟨_, .shr, rfl, rfl, r, fun z => by cases z⟩
  | _, _, _, 0, d, .bor r t, h => by simp at h; subst h; exact ⟨_, .bor, rfl, rfl, r, fun z => by cases z⟩
  | _, _, _, 0, d, .io r x t, h => by simp at h; subst h; exact ⟨_, .io, rfl, rfl, r, fun _ => x⟩
  | _, _, _, i + 1, d, .shr r t, h => by
    obtain ⟨v, m, h1, h2, h3⟩ := ArgsOk.at (i := i) t (by simpa using h)
    exact ⟨v, m, by simpa using h1, by simpa using h2, h3⟩
  | _, _, _, i + 1, d, .bor r t, h => by
    obtain ⟨v, m, h1, h2, h3⟩ := ArgsOk.at (i := i) t (by simpa using h)
    exact ⟨v, m, by simpa using h1, by simpa using h2, h3⟩
  | _, _, _, i + 1, d, .io r x t, h => by
    obtain ⟨v, m, h1, h2, h3⟩ := ArgsOk.at (i := i) t (by simpa using h)
    exact ⟨v, m, by simpa using h1, by simpa using h2, h3⟩
theorem gv_start {n : Nat} {ds : List D} {i : Nat} {d : D} : gv (startE n ds) i = some d ↔ ds[i]? = some d := by
  unfold gv startE
  by_cases h : i < ds.length
  · rw [List.getElem?_append_left (by simpa using h), List.getElem?_map]
    cases e : ds[i]? with
    | none => simp
    | some x => simp
  · rw [List.getElem?_append_right (by simpa using h)]
    have h2 : ds[i]? = none := List.getElem?_eq_none (by omega)
    rw [h2, List.getElem?_replicate]
    split <;> rename_i h3 <;> simp_all
theorem st_start {N : List Str} {vs : List V} {i : Nat} {v : V} (h : vs[i]? = some v) : (L2.start N vs)[i]? = some (some v) := by
  have hi : i < vs.length := (List.getElem?_eq_some_iff.mp h).1
  unfold L2.start
  rw [List.getElem?_append_left (by simpa using hi), List.getElem?_map, h]; rfl
/-- how the names begin -/
theorem own_start (hm : M.take ms.length = ms.map pmM) (a : ArgsOk K R H ms ds vs) {n i : Nat} {b : Addr} (o : OwnI M (startE n ds) (L2.start N vs) i b) : ms[i]? = some PM.io ∧ vs[i]? = some (.ref b) := by
  obtain ⟨h1, ⟨d, h2⟩, h3⟩ := o
  obtain ⟨v, m, e1, e2, e3, e4⟩ := a.at (gv_start.mp h2)
  rw [st_start e1] at h3
  cases h3
  have hlt : i < ms.length := (List.getElem?_eq_some_iff.mp e2).1
  have : md M i = pmM m := by
    have h5 : (M.take ms.length)[i]? = some (pmM m) := by rw [hm, List.getElem?_map, e2]; rfl
    rw [List.getElem?_take_of_lt hlt] at h5
    unfold md
    rw [List.getD_eq_getElem?_getD, h5]; rfl
  rw [this] at h1
  cases m with
  | shr => cases h1
  | bor => cases h1
  | io => exact ⟨e2, e1⟩
theorem md_start (hm : M.take ms.length = ms.map pmM) {i : Nat} {m : PM} (h : ms[i]? = some m) : md M i = pmM m := by
  have hlt : i < ms.length := (List.getElem?_eq_some_iff.mp h).1
  have h5 : (M.take ms.length)[i]? = some (pmM m) := by rw [hm, List.getElem?_map, h]; rfl
  rw [List.getElem?_take_of_lt hlt] at h5
  unfold md
  rw [List.getD_eq_getElem?_getD, h5]; rfl
theorem env_start (hm : M.take ms.length = ms.map pmM) (hN : ms.length ≤ N.length) (a : ArgsOk K R H ms ds vs) (dom : ∀ b, R b → H b ≠ none) (kf : KF K H) (ap : IoApart ms ds vs) :
    EnvOk K R M (L2.start N vs) H (startE N.length ds) ∧ OwnR R M (startE N.length ds) (L2.start N vs) ∧ (∀ b, ¬ OwnO M (startE N.length ds) (L2.start N vs) b) ∧ ∀ b, OwnA M (startE N.length ds) (L2.start N vs) b ↔ IoA ms vs b := by
  have len := a.len
  have inR : ∀ b, OwnA M (startE N.length ds) (L2.start N vs) b → R b := fun b ⟨i, o⟩ => by
    obtain ⟨h1, h2⟩ := own_start hm a o
    obtain ⟨_, ⟨d, hd⟩, _⟩ := o
    obtain ⟨v, m, e1, e2, _, e4⟩ := a.at (gv_start.mp hd)
    rw [h1] at e2; cases e2
    rw [h2] at e1; cases e1
    exact e4 rfl b rfl
  have rr : Rr R M (startE N.length ds) (L2.start N vs) = R := by
    funext b; exact propext ⟨fun z => z.elim id (inR b), .inl⟩
  have noO : ∀ b, ¬ OwnO M (startE N.length ds) (L2.start N vs) b := fun b ⟨i, hi, o⟩ => by
    obtain ⟨h1, h2⟩ := own_start hm a o
    rw [md_start hm h1] at hi
    cases hi
  refine ⟨⟨?_, fun i d hd => ?_, fun i j b o1 o2 => ?_, fun i b d hb hs hd hu ho => ?_, dom, kf⟩, fun b z => absurd z (noO b), noO, fun b => ⟨fun ⟨i, o⟩ => ⟨i, own_start hm a o⟩, fun ⟨i, h1, h2⟩ => ?_⟩⟩
  · unfold startE L2.start
    simp [len.1, len.2]
  · obtain ⟨v, m, e1, e2, e3, _⟩ := a.at (gv_start.mp hd)
    rw [rr, md_start hm e2]
    exact ⟨v, st_start e1, e3⟩
  · obtain ⟨h1, h2⟩ := own_start hm a o1
    obtain ⟨h3, h4⟩ := own_start hm a o2
    exact (ap i j b h1 h2 h4).1 h3
  · obtain ⟨j, o⟩ := ho
    obtain ⟨h1, h2⟩ := own_start hm a o
    have hd' := gv_start.mp hd
    obtain ⟨v, m, e1, e2, _, _⟩ := a.at hd'
    rw [st_start e1] at hs
    cases hs
    rw [md_start hm e2] at hb
    cases m with
    | shr => cases hb
    | io => cases hb
    | bor => exact (ap j i b h1 h2 e1).2 d e2 hd' hu
  · have hi : i < ds.length := by rw [len.2]; exact (List.getElem?_eq_some_iff.mp h1).1
    exact ⟨i, by rw [md_start hm h1]; rfl, ⟨_, gv_start.mpr (List.getElem?_eq_getElem hi)⟩, st_start h2⟩
theorem outs_ok : ∀ {ms : List PM} {vs : List V} {ρ : Env}, vs.length = ms.length → (∀ i : Nat, ms[i]? = some PM.io → ∃ d v, ρ[i]? = some (some d) ∧ vs[i]? = some v ∧ OwnOk K R H d v) → OutsOk K R H ms (outsOf ms ρ) vs
  | [], [], ρ, _, _ => by unfold outsOf; exact .nil
  | [], _ :: _, ρ, h, _ => by cases h
  | _ :: _, [], ρ, h, _ => by cases h
  | .io :: ms, v :: vs, ρ, hl, h => by
    obtain ⟨d, v', h1, h2, h3⟩ := h 0 rfl
    simp at h2
    subst h2
    cases ρ with
    | nil => simp at h1
    | cons x r =>
      simp at h1
      subst h1
      unfold outsOf
      refine .io h3 (outs_ok (by simpa using hl) fun i hi => ?_)
      obtain ⟨d', w, g1, g2, g3⟩ := h (i + 1) (by simpa using hi)
      exact ⟨d', w, by simpa using g1, by simpa using g2, g3⟩
  | .shr :: ms, v :: vs, ρ, hl, h => by
    unfold outsOf
    refine .other (by decide) (outs_ok (by simpa using hl) fun i hi => ?_)
    obtain ⟨d', w, g1, g2, g3⟩ := h (i + 1) (by simpa using hi)
    refine ⟨d', w, ?_, by simpa using g2, g3⟩
    cases ρ with
    | nil => simp at g1
    | cons x r => simpa using g1
  | .bor :: ms, v :: vs, ρ, hl, h => by
    unfold outsOf
    refine .other (by decide) (outs_ok (by simpa using hl) fun i hi => ?_)
    obtain ⟨d', w, g1, g2, g3⟩ := h (i + 1) (by simpa using hi)
    refine ⟨d', w, ?_, by simpa using g2, g3⟩
    cases ρ with
    | nil => simp at g1
    | cons x r => simpa using g1
/-- a body's end is a call's end -/
theorem rest_of (hm : M.take ms.length = ms.map pmM) (hN : ms.length ≤ N.length) {xr : XR} {fr : Bool} {Q : VK} {E : XK} {o : SOut} (a : ArgsOk K R H ms ds vs) (dom : ∀ b, R b → H b ≠ none) (kf : KF K H) (ap : IoApart ms ds vs) (h : CRest K R xr H ms fr vs Q E (finE ms o)) :
    RestS K R M xr (fun cls d _ H => E cls d H) fr (L2.start N vs) H (startE N.length ds) { nx := fun _ H' => Q .non H', rt := Q } o := by
  obtain ⟨env, ow, noO, oA⟩ := env_start hm hN a dom kf ap
  have len := a.len
  have cf : ∀ {H' : Hp} {σ' : L2.St} {ρ' : Env}, MvS K R M H (L2.start N vs) (startE N.length ds) H' σ' ρ' → KF K H' ∧ CFrm ms vs H H' ∧ OutsOk K R H' ms (outsOf ms ρ') vs := fun {H' σ' ρ'} m => by
    refine ⟨m.env.kf, ⟨fun b o e n => m.keep b o e fun z => n ((oA b).mp z), m.there⟩, outs_ok len.1 fun i hi => ?_⟩
    have hlt : i < ms.length := (List.getElem?_eq_some_iff.mp hi).1
    have hmd : md M i = .io := md_start hm hi
    obtain ⟨s1, s2⟩ := m.io i (.inl hmd)
    have hd : i < ds.length := by rw [len.2]; exact hlt
    have hv : i < vs.length := by rw [len.1]; exact hlt
    obtain ⟨d, hd2⟩ := s2.mpr ⟨ds[i], gv_start.mpr (List.getElem?_eq_getElem hd)⟩
    obtain ⟨v, e1, so⟩ := m.env.slot i d hd2
    rw [s1, st_start (List.getElem?_eq_getElem hv)] at e1
    rw [hmd] at so
    have so : OwnOk K (Rr R M ρ' σ') H' d v := so
    have e1 : vs[i] = v := by simpa using e1
    refine ⟨d, v, ?_, by rw [List.getElem?_eq_getElem hv, e1], so.mono (fun b o z n => ⟨z, fun w => n (.inl w)⟩) fun _ _ _ z => z⟩
    unfold gv at hd2
    cases e : ρ'[i]? with
    | none => rw [e] at hd2; cases hd2
    | some x => rw [e] at hd2; dsimp only at hd2; rw [hd2]
  cases o with
  | next ρ' =>
    intro σ' H' m
    obtain ⟨c1, c2, c3⟩ := cf m
    exact h .non H' c1 c2 c3 (by cases fr <;> exact .non)
  | ret d ρ' =>
    intro v σ' H' m r
    obtain ⟨c1, c2, c3⟩ := cf m
    refine h v H' c1 c2 c3 ?_
    unfold RetOk at r
    cases fr with
    | false => exact r
    | true =>
      rw [if_pos rfl] at r ⊢
      cases d with
      | lst xs =>
        obtain ⟨b, ws, e, h0, h1, h2, t, z⟩ := r
        exact ⟨b, ws, e, h0.resolve_left (noO b), h2, t, z⟩
      | _ => exact r
  | exc c p ρ' =>
    intro cv dx σ' H' m x
    obtain ⟨c1, c2, c3⟩ := cf m
    exact h cv dx H' c1 c2 c3 x
  | brk _ => exact h.elim
  | cont _ => exact h.elim
  | stuck => exact h.elim
/-! ### all defs of a text, by levels -/
/-- what is known of the defs, the constants, the built-ins, behind the top -/
structure DefE (P : Program) (w : World) (K : PySem.W.Frag) (mg : Str → Option Value) (fs : Nat → Option Fn) (fns : List FnE) (gs : List (Str × D)) (fe : FnE) (f : Addr) (fd : FuncData) (ps : List Str) : Prop where
  ex : ∃ (g : Fn) (st : Stmt) (C : Ck) (fuel : Nat) (qual : Str), fs fe.ix = some g ∧ Fun K fe.name qual st f fd ∧ FnScope C.N ps (defScope st) ∧ C.sc = defScope st ∧ C.blk = none ∧ C.fresh = fe.fresh ∧ C.fns = fns ∧ C.gs = gs ∧
    compS.compSs (compS fuel C) (defBody st) = some g.body ∧ g.ms = fe.ms ∧ g.n = C.N.length ∧ C.M.take fe.ms.length = fe.ms.map pmM ∧ fe.ms.length = ps.length
  mgf : mg fe.name = some (.ref f)
  bi : Binds K fd ps []
theorem finE_rest {K : PySem.W.Frag} {R : Addr → Prop} {xr : XR} {H : Hp} {ms : List PM} {fr : Bool} {vs : List V} {Q : VK} {E : XK} {fs : Nat → Option Fn} {wf n i : Nat} {g : Fn} {ds : List D} (hg : fs i = some g) (hl : ds.length = g.ms.length) (h : CRest K R xr H ms fr vs Q E (evF fs wf (n + 1) i ds)) : CRest K R xr H ms fr vs Q E (finE g.ms (evSs (evF fs wf n) wf g.body (startE g.n ds))) := by
  rw [evF, hg] at h
  dsimp only at h
  rw [if_pos hl] at h
  exact h
theorem defs_ok {P : Program} {w : World} {K : PySem.W.Frag} {mg : Str → Option Value} {base : Heap} {xr : XR} {fs : Nat → Option Fn} {wf : Nat} {fns : List FnE} {gs : List (Str × D)} (hx : XrOk xr) (hf : ∀ fe ∈ fns, ∃ f fd ps, DefE P w K mg fs fns gs fe f fd ps)
    (hgs : ∀ g ∈ gs, isMut g.2 = false → ∃ (v : V) (u : Value), mg g.1 = some u ∧ L2.RelV v u ∧ ∀ R H, Rep K R H g.2 v) (hb : ∀ x ∈ bltNames, mg x = none) :
    ∀ (n : Nat) (fe : FnE) (f : Addr) (fd : FuncData) (ps : List Str), DefE P w K mg fs fns gs fe f fd ps → FnOk P w K mg base (L2.CX P w) n f fd ps (spF K xr fe.ms fe.fresh (evF fs wf n fe.ix)) := by
  intro n
  induction n with
  | zero =>
    intro fe f fd ps d
    obtain ⟨g, st, C, fuel, qual, _, F, _, _, _, _, _, _, _, _, _, _, hl⟩ := d.ex
    refine ⟨fun vs H Q E ⟨R, ds, a, _, _, _, h⟩ => ?_, fun A outer s H args us vs Q E _ _ _ _ ⟨R, ds, a, _, _, _, h⟩ => ?_⟩
    · rw [a.len.1, hl]
    · exact h.elim
  | succ n ih =>
    intro fe f fd ps dd
    obtain ⟨g, st, C, fuel, qual, h1, F, S, h4, h5, h6, h7, h8, h9, h10, h11, h12, hl⟩ := dd.ex
    refine Fun.okX F S (fun vs H Q E ⟨R, ds, a, _, _, _, h⟩ => by rw [a.len.1, hl]) fun cdv A outer s H vs Q E hr ⟨R, ds, a, dom, kf, ap, h⟩ => ?_
    have hN : fe.ms.length ≤ C.N.length := by
      have := congrArg List.length S.pre
      rw [List.length_take] at this
      omega
    have h' := finE_rest h1 (by rw [a.len.2, h10]) h
    rw [h10, h11] at h'
    have r := rest_of h12 hN a dom kf ap h'
    have c : CtxOk (evF fs wf n) xr C (cxOf (L2.CX P w) P w K mg base C.N qual (defScope st) f cdv A outer s H E) (fun cls d _ H => E cls d H) := by
      refine ⟨rfl, S.nd, h4.symm, by rw [h4]; exact S.kind, rfl, fun x _ => .inl rfl, takes_of rfl rfl rfl rfl, by have := hr.un; show (A.deeper _).units + 200 < cLine; omega, hx, fun fe2 h2 => ?_, fun g hg hmu => ?_, hb⟩
      · rw [h7] at h2
        obtain ⟨f2, fd2, ps2, d2⟩ := hf fe2 h2
        obtain ⟨_, _, _, _, _, _, F2, _⟩ := d2.ex
        exact ⟨n, f2, fd2, ps2, ih fe2 f2 fd2 ps2 d2, hr, d2.mgf, F2.kp, d2.bi⟩
      · rw [h8] at hg
        exact hgs g hg hmu
    have body := compSs_ok (R0 := R) (wf := wf) (compS fuel C) (fun s t hs => compS_ok fuel C _ _ R s t c (passes_of rfl) hs) h9
    refine ⟨_, body, startE C.N.length ds, ?_⟩
    obtain ⟨env, ow, _, _⟩ := env_start (N := C.N) h12 hN a dom kf ap
    refine ⟨env, ow, ?_⟩
    rw [h6]
    exact r
/-- the tracked heap is none of the top's: this needs no saying -/
theorem FnOk.kf {P : Program} {w : World} {K : PySem.W.Frag} {mg : Str → Option Value} {base : Heap} {CX : CXT} {k : Nat} {f : Addr} {fd : FuncData} {ps : List Str} {sp : Sp} (F : FnOk P w K mg base CX k f fd ps sp) : FnOk P w K mg base CX k f fd ps (fun vs H Q E => vs.length = ps.length ∧ (KF K H → sp vs H Q E)) :=
  ⟨fun vs H Q E h => h.1, fun A outer s H args us vs Q E hr e0 hb hv h => F.run A outer s H args us vs Q E hr e0 hb hv (h.2 fun a o e => (e0.bs a o (e0.mod.kin a o e)).2)⟩
/-- the law's promise -/
def spLaw (K : PySem.W.Frag) (xr : XR) (fr : Bool) (cfi : List D → COut) : Sp := fun vs H Q E => vs.length = 1 ∧ (KF K H → spF K xr [.bor] fr cfi vs H Q E)
theorem law_sp {K : PySem.W.Frag} {xr : XR} {fr : Bool} {cfi : List D → COut} {H : Hp} {a : Addr} {ns : List Int} (hl : ns.length ≤ 63) (hS : SqL K H a (ns.map V.int)) (h : ∃ outs, cfi [.lst (ns.map .int)] = .ok (.bl true) outs) : spLaw K xr fr cfi [.ref a] H (fun v _ => v = .bl true) fun _ _ _ => False := by
  refine ⟨rfl, fun kf => ⟨fun _ => False, [.lst (ns.map .int)], .bor ⟨a, _, rfl, hS, ?_, ?_⟩ .nil, fun b z => z.elim, kf, fun i j b h1 => ?_, ?_⟩⟩
  · clear hl hS h
    induction ns with
    | nil => exact .nil
    | cons x xs ih => exact .cons (.int x) ih
  · rw [List.length_map]; exact Nat.le_trans hl (by decide)
  · cases i with
    | zero => cases h1
    | succ i => simp at h1
  · obtain ⟨outs, h⟩ := h
    rw [h]
    intro v H' _ _ _ vo
    cases fr with
    | false => cases (show Rep K _ H' (.bl true) v from vo); rfl
    | true => cases (show Rep K _ H' (.bl true) v from vo); rfl
theorem no_exc {P : Program} {w : World} {H : Hp} {s : Shared} {e : Value} {s' : Shared} (h : L2.CX P w [] H s (fun _ _ _ => False) e s') : False := by
  obtain ⟨_, _, _, _, _, _, _, _, _, _, _, _, z⟩ := h
  exact z
end
end Ev
end -- EvF

section -- terms
set_option Elab.async false
set_option linter.all false
set_option maxRecDepth 100000
set_option maxHeartbeats 4000000
namespace K01
open Ev
def g_SIGNS : Ev.D := .str [9, 10, 32, 33, 34, 35, 36, 37, 38, 39, 40, 41, 42, 43, 44, 45, 46, 47, 48, 49, 50, 51, 52, 53, 54, 55, 56, 57, 58, 59, 60, 61, 62, 63, 64, 65, 66, 67, 68, 69, 70, 71, 72, 73, 74, 75, 76, 77, 78, 79, 80, 81, 82, 83, 84, 85, 86, 87, 88, 89, 90, 91, 92, 93, 94, 95, 96, 97, 98, 99, 100, 101, 102, 103, 104, 105, 106, 107, 108, 109, 110, 111, 112, 113, 114, 115, 116, 117, 118, 119, 120, 121, 122, 123, 124, 125, 126]
def g_LAST : Ev.D := .int 96
/-- is_count: 0 value bor -/
def f_is_count : Fn := { ms := [.bor], n := 1, fresh := false, body := [(.ret (.andL [(.isinst (.bvar 0) .int), (.not_ (.isinst (.bvar 0) .bool)), (.cmp .ge (.bvar 0) (.con (.int 0)))]))] }
/-- is_range: 0 value bor -/
def f_is_range : Fn := { ms := [.bor], n := 1, fresh := true, body := [(.ite (.orL [(.not_ (.isinst (.bvar 0) .tuple)), (.cmp .ne (.bi .len [(.bvar 0)]) (.con (.int 2))), (.not_ (.call 0 [.bor] [(.sub (.bvar 0) (.con (.int 0)))])), (.not_ (.call 0 [.bor] [(.sub (.bvar 0) (.con (.int 1)))]))]) [(.ret (.con (.bl false)))] []), (.ret (.chain .le .le (.sub (.bvar 0) (.con (.int 0))) (.sub (.bvar 0) (.con (.int 1))) (.glob g_LAST)))] }
/-- is_signs: 0 value bor 1 k shr 2 one shr -/
def f_is_signs : Fn := { ms := [.bor], n := 3, fresh := true, body := [(.ite (.orL [(.not_ (.isinst (.bvar 0) .tuple)), (.not_ (.bi .all [(.comp (.call 1 [.bor] [(.var 2)]) (.name 2) (.bvar 0) [] [2])]))]) [(.ret (.con (.bl false)))] []), (.ret (.bi .all [(.comp (.cmp .lt (.bin .add (.sub (.sub (.bvar 0) (.bin .sub (.var 1) (.con (.int 1)))) (.con (.int 1))) (.con (.int 1))) (.sub (.sub (.bvar 0) (.var 1)) (.con (.int 0)))) (.name 1) (.rng [(.con (.int 1)), (.bi .len [(.bvar 0)])]) [] [1])]))] }
/-- is_text: 0 value bor 1 one shr -/
def f_is_text : Fn := { ms := [.bor], n := 2, fresh := false, body := [(.ret (.andL [(.isinst (.bvar 0) .str), (.bi .all [(.comp (.cmp .in_ (.var 1) (.glob g_SIGNS)) (.name 1) (.bvar 0) [] [1])])]))] }
/-- sign_number: 0 sign bor -/
def f_sign_number : Fn := { ms := [.bor], n := 1, fresh := true, body := [(.ret (.meth .find (.glob g_SIGNS) [(.bvar 0)]))] }
/-- sign_of: 0 number bor -/
def f_sign_of : Fn := { ms := [.bor], n := 1, fresh := false, body := [(.ret (.sub (.glob g_SIGNS) (.bvar 0)))] }
/-- signs_by: 0 ranges bor 1 found own 2 low shr 3 high shr -/
def f_signs_by : Fn := { ms := [.bor], n := 4, fresh := true, body := [(.asgO 1 (.lst [])), (.for_ (.tup [(.name 2), (.name 3)]) (.bi .sorted [(.bvar 0)]) [(.ite (.andL [(.cmp .ne (.bvar 1) (.lst [])), (.cmp .le (.var 2) (.bin .add (.sub (.sub (.bvar 1) (.neg (.con (.int 1)))) (.con (.int 1))) (.con (.int 1))))]) [(.setI 1 (.neg (.con (.int 1))) (.tup [(.sub (.sub (.bvar 1) (.neg (.con (.int 1)))) (.con (.int 0))), (.bi .max2 [(.sub (.sub (.bvar 1) (.neg (.con (.int 1)))) (.con (.int 1))), (.var 3)])]))] [(.append 1 (.tup [(.var 2), (.var 3)]))])]), (.ret (.bi .tuple [(.bvar 1)]))] }
/-- signs_in: 0 text bor 1 one shr -/
def f_signs_in : Fn := { ms := [.bor], n := 2, fresh := true, body := [(.ret (.call 6 [.bor] [(.comp (.tup [(.call 4 [.bor] [(.var 1)]), (.call 4 [.bor] [(.var 1)])]) (.name 1) (.bvar 0) [] [1])]))] }
/-- every_sign:  -/
def f_every_sign : Fn := { ms := [], n := 0, fresh := true, body := [(.ret (.tup [(.tup [(.con (.int 0)), (.glob g_LAST)])]))] }
/-- union_signs: 0 first bor 1 second bor -/
def f_union_signs : Fn := { ms := [.bor, .bor], n := 2, fresh := true, body := [(.ret (.call 6 [.bor] [(.bin .add (.bvar 0) (.bvar 1))]))] }
/-- other_signs: 0 signs bor 1 found own 2 here shr 3 low shr 4 high shr -/
def f_other_signs : Fn := { ms := [.bor], n := 5, fresh := true, body := [(.par [1, 2] [(.lst []), (.con (.int 0))]), (.for_ (.tup [(.name 3), (.name 4)]) (.bvar 0) [(.ite (.cmp .lt (.var 2) (.var 3)) [(.append 1 (.tup [(.var 2), (.bin .sub (.var 3) (.con (.int 1)))]))] []), (.asg (.name 2) (.bin .add (.var 4) (.con (.int 1))))]), (.ite (.cmp .le (.var 2) (.glob g_LAST)) [(.append 1 (.tup [(.var 2), (.glob g_LAST)]))] []), (.ret (.bi .tuple [(.bvar 1)]))] }
/-- both_signs: 0 first bor 1 second bor -/
def f_both_signs : Fn := { ms := [.bor, .bor], n := 2, fresh := true, body := [(.ret (.call 10 [.bor] [(.call 9 [.bor, .bor] [(.call 10 [.bor] [(.bvar 0)]), (.call 10 [.bor] [(.bvar 1)])])]))] }
/-- less_signs: 0 first bor 1 second bor -/
def f_less_signs : Fn := { ms := [.bor, .bor], n := 2, fresh := true, body := [(.ret (.call 11 [.bor, .bor] [(.bvar 0), (.call 10 [.bor] [(.bvar 1)])]))] }
/-- has_sign: 0 signs bor 1 sign bor 2 number shr 3 low shr 4 high shr -/
def f_has_sign : Fn := { ms := [.bor, .bor], n := 5, fresh := true, body := [(.asg (.name 2) (.call 4 [.bor] [(.bvar 1)])), (.ret (.bi .any [(.comp (.chain .le .le (.var 3) (.var 2) (.var 4)) (.tup [(.name 3), (.name 4)]) (.bvar 0) [] [3, 4])]))] }
/-- sign_count: 0 signs bor 1 low shr 2 high shr -/
def f_sign_count : Fn := { ms := [.bor], n := 3, fresh := true, body := [(.ret (.bi .sum [(.comp (.bin .add (.bin .sub (.var 2) (.var 1)) (.con (.int 1))) (.tup [(.name 1), (.name 2)]) (.bvar 0) [] [1, 2])]))] }
/-- least_sign: 0 signs bor 1 some shr 2 both shr -/
def f_least_sign : Fn := { ms := [.bor], n := 3, fresh := false, body := [(.for_ (.name 1) (.tup [(.tup [(.tup [(.con (.int 67)), (.con (.int 92))])]), (.tup [(.tup [(.con (.int 35)), (.con (.int 60))])]), (.tup [(.tup [(.con (.int 18)), (.con (.int 27))])]), (.tup [(.tup [(.con (.int 3)), (.glob g_LAST)])]), (.tup [(.tup [(.con (.int 2)), (.con (.int 2))])]), (.tup [(.tup [(.con (.int 1)), (.con (.int 1))])])]) [(.asg (.name 2) (.call 11 [.bor, .bor] [(.bvar 0), (.var 1)])), (.ite (.cmp .ne (.var 2) (.tup [])) [(.ret (.call 5 [.bor] [(.sub (.sub (.var 2) (.con (.int 0))) (.con (.int 0)))]))] [])]), (.ret (.ite (.cmp .ne (.bvar 0) (.tup [])) (.call 5 [.bor] [(.sub (.sub (.bvar 0) (.con (.int 0))) (.con (.int 0)))]) (.con .non)))] }
/-- sign_classes: 0 sets bor 1 found shr 2 one shr 3 later own 4 some shr 5 part shr -/
def f_sign_classes : Fn := { ms := [.bor], n := 6, fresh := true, body := [(.asg (.name 1) (.lst [(.call 8 [] [])])), (.for_ (.name 2) (.bvar 0) [(.asgO 3 (.lst [])), (.for_ (.name 4) (.var 1) [(.for_ (.name 5) (.tup [(.call 11 [.bor, .bor] [(.var 4), (.var 2)]), (.call 12 [.bor, .bor] [(.var 4), (.var 2)])]) [(.ite (.cmp .ne (.var 5) (.tup [])) [(.append 3 (.var 5))] [])])]), (.asgM 1 3)]), (.ret (.bi .sorted [(.var 1)]))] }
/-- class_of: 0 classes bor 1 sign bor 2 k shr -/
def f_class_of : Fn := { ms := [.bor, .bor], n := 3, fresh := false, body := [(.ret (.sub (.comp (.var 2) (.name 2) (.rng [(.bi .len [(.bvar 0)])]) [(.call 13 [.bor, .bor] [(.sub (.bvar 0) (.var 2)), (.bvar 1)])] [2]) (.con (.int 0))))] }
/-- _law_next: 0 tape io 1 many bor 2 rest shr 3 cell shr -/
def f__law_next : Fn := { ms := [.io, .bor], n := 4, fresh := true, body := [(.asg (.name 2) (.sub (.bvar 0) (.con (.int 2)))), (.ite (.cmp .eq (.var 2) (.con (.int 0))) [(.asg (.name 3) (.con (.int 0))), (.ite (.cmp .lt (.sub (.bvar 0) (.con (.int 1))) (.bi .len [(.sub (.bvar 0) (.con (.int 0)))])) [(.asg (.name 3) (.bi .abs [(.bi .int [(.sub (.sub (.bvar 0) (.con (.int 0))) (.sub (.bvar 0) (.con (.int 1))))])])), (.setI 0 (.con (.int 1)) (.bin .add (.sub (.bvar 0) (.con (.int 1))) (.con (.int 1))))] []), (.asg (.name 2) (.var 3)), (.ite (.cmp .lt (.var 3) (.bin .pow (.con (.int 10)) (.con (.int 18)))) [(.setI 0 (.con (.int 3)) (.bin .mod (.bi .int [(.bin .add (.bin .add (.bin .mul (.sub (.bvar 0) (.con (.int 3))) (.con (.int 69621))) (.bin .mul (.var 3) (.con (.int 40692)))) (.con (.int 17)))]) (.con (.int 2147483647)))), (.ret (.bin .mod (.bin .mod (.bi .int [(.bin .mul (.bi .int [(.bin .fdiv (.sub (.bvar 0) (.con (.int 3))) (.con (.int 5)))]) (.con (.int 48271)))]) (.con (.int 2147483647))) (.bvar 1)))] [])] []), (.setI 0 (.con (.int 2)) (.bin .fdiv (.var 2) (.bvar 1))), (.ret (.bin .mod (.bi .int [(.var 2)]) (.bvar 1)))] }
/-- _law_same: 0 told bor 1 due bor 2 k shr -/
def f__law_same : Fn := { ms := [.bor, .bor], n := 3, fresh := false, body := [(.ite (.cmp .is_ (.bvar 1) (.con .non)) [(.ret (.cmp .is_ (.bvar 0) (.con .non)))] []), (.ite (.isinst (.bvar 1) .bool) [(.ret (.andL [(.isinst (.bvar 0) .bool), (.cmp .eq (.bvar 0) (.bvar 1))]))] []), (.ite (.isinst (.bvar 1) .int) [(.ret (.andL [(.isinst (.bvar 0) .int), (.not_ (.isinst (.bvar 0) .bool)), (.cmp .eq (.bvar 0) (.bvar 1))]))] []), (.ite (.isinst (.bvar 1) .str) [(.ret (.andL [(.isinst (.bvar 0) .str), (.cmp .eq (.bvar 0) (.bvar 1))]))] []), (.ite (.orL [(.andL [(.isinst (.bvar 1) .list), (.not_ (.isinst (.bvar 0) .list))]), (.andL [(.isinst (.bvar 1) .tuple), (.not_ (.isinst (.bvar 0) .tuple))])]) [(.ret (.con (.bl false)))] []), (.ret (.andL [(.cmp .eq (.bi .len [(.bvar 0)]) (.bi .len [(.bvar 1)])), (.cmp .eq (.comp (.con (.int 1)) (.name 2) (.rng [(.bi .len [(.bvar 1)])]) [(.not_ (.call 19 [.bor, .bor] [(.sub (.bvar 0) (.var 2)), (.sub (.bvar 1) (.var 2))]))] [2]) (.lst []))]))] }
/-- _law_signs:  -/
def f__law_signs : Fn := { ms := [], n := 0, fresh := false, body := [(.ret (.glob g_SIGNS))] }
/-- _law_ranges: 0 tape io 1 found own 2 k shr 3 low shr -/
def f__law_ranges : Fn := { ms := [.io], n := 4, fresh := true, body := [(.asgO 1 (.lst [])), (.for_ (.name 2) (.rng [(.call 18 [.io, .bor] [(.bvar 0), (.con (.int 5))])]) [(.asg (.name 3) (.call 18 [.io, .bor] [(.bvar 0), (.con (.int 97))])), (.append 1 (.tup [(.var 3), (.bi .min2 [(.bin .add (.var 3) (.call 18 [.io, .bor] [(.bvar 0), (.bin .add (.con (.int 1)) (.call 18 [.io, .bor] [(.bvar 0), (.con (.int 30))]))])), (.con (.int 96))])]))]), (.retM 1)] }
/-- _law_codes: 0 ranges bor 1 code shr 2 low shr 3 high shr -/
def f__law_codes : Fn := { ms := [.bor], n := 4, fresh := true, body := [(.ret (.comp (.var 1) (.name 1) (.rng [(.con (.int 97))]) [(.cmp .ne (.comp (.con (.int 1)) (.tup [(.name 2), (.name 3)]) (.bvar 0) [(.chain .le .le (.var 2) (.var 1) (.var 3))] [2, 3]) (.lst []))] [1]))] }
/-- _law_least_one: 0 codes bor 1 order shr 2 fits shr 3 rest shr 4 sign shr 5 code shr -/
def f__law_least_one : Fn := { ms := [.bor], n := 6, fresh := false, body := [(.asg (.name 1) (.con (.str [97, 98, 99, 100, 101, 102, 103, 104, 105, 106, 107, 108, 109, 110, 111, 112, 113, 114, 115, 116, 117, 118, 119, 120, 121, 122, 65, 66, 67, 68, 69, 70, 71, 72, 73, 74, 75, 76, 77, 78, 79, 80, 81, 82, 83, 84, 85, 86, 87, 88, 89, 90, 48, 49, 50, 51, 52, 53, 54, 55, 56, 57]))), (.asg (.name 2) (.comp (.var 4) (.name 4) (.var 1) [(.cmp .in_ (.meth .find (.call 20 [] []) [(.var 4)]) (.bvar 0))] [4])), (.asg (.name 3) (.comp (.var 5) (.name 5) (.bin .add (.bi .list [(.rng [(.con (.int 3)), (.con (.int 97))])]) (.lst [(.con (.int 2)), (.con (.int 1)), (.con (.int 0))])) [(.cmp .in_ (.var 5) (.bvar 0))] [5])), (.ret (.ite (.cmp .ne (.var 2) (.lst [])) (.sub (.var 2) (.con (.int 0))) (.ite (.cmp .ne (.var 3) (.lst [])) (.sub (.call 20 [] []) (.sub (.var 3) (.con (.int 0)))) (.con .non))))] }
/-- law: 0 script bor 1 tape own 2 told shr 3 due shr 4 plain shr 5 code shr 6 sign shr 7 text shr 8 codes shr 9 classes shr 10 names shr 11 kinds shr 12 part shr 13 low shr 14 odd shr 15 one shr 16 other shr 17 first shr 18 second shr 19 a shr 20 b shr 21 whole shr 22 inside shr 23 name shr 24 k shr 25 value shr -/
def f_law : Fn := { ms := [.bor], n := 26, fresh := false, body := [(.asgO 1 (.lst [(.bi .list [(.bvar 0)]), (.con (.int 0)), (.con (.int 0)), (.con (.int 1))])), (.par [15, 16] [(.call 21 [.io] [(.bvar 1)]), (.call 21 [.io] [(.bvar 1)])]), (.par [17, 18] [(.call 6 [.bor] [(.var 15)]), (.call 6 [.bor] [(.var 16)])]), (.asg (.tup [(.name 19), (.name 20), (.name 21)]) (.tup [(.call 22 [.bor] [(.var 15)]), (.call 22 [.bor] [(.var 16)]), (.bi .list [(.rng [(.con (.int 97))])])])), (.ite (.orL [(.not_ (.call 2 [.bor] [(.var 17)])), (.not_ (.call 2 [.bor] [(.var 18)])), (.cmp .ne (.call 22 [.bor] [(.var 17)]) (.var 19)), (.cmp .ne (.var 17) (.call 6 [.bor] [(.rev (.var 15))]))]) [(.ret (.con (.bl false)))] []), (.asg (.name 2) (.lst [(.call 9 [.bor, .bor] [(.var 17), (.var 18)]), (.call 11 [.bor, .bor] [(.var 17), (.var 18)]), (.call 12 [.bor, .bor] [(.var 17), (.var 18)]), (.call 10 [.bor] [(.var 17)])])), (.asg (.name 3) (.lst [(.comp (.var 24) (.name 24) (.var 21) [(.orL [(.cmp .in_ (.var 24) (.var 19)), (.cmp .in_ (.var 24) (.var 20))])] [24]), (.comp (.var 24) (.name 24) (.var 19) [(.cmp .in_ (.var 24) (.var 20))] [24]), (.comp (.var 24) (.name 24) (.var 19) [(.cmp .notin (.var 24) (.var 20))] [24]), (.comp (.var 24) (.name 24) (.var 21) [(.cmp .notin (.var 24) (.var 19))] [24])])), (.ite (.cmp .ne (.comp (.var 24) (.name 24) (.rng [(.con (.int 4))]) [(.orL [(.cmp .isnot (.call 2 [.bor] [(.sub (.var 2) (.var 24))]) (.con (.bl true))), (.cmp .ne (.call 22 [.bor] [(.sub (.var 2) (.var 24))]) (.sub (.var 3) (.var 24)))])] [24]) (.lst [])) [(.ret (.con (.bl false)))] []), (.asg (.name 2) (.lst [(.call 14 [.bor] [(.var 17)]), (.call 14 [.bor] [(.call 10 [.bor] [(.var 17)])]), (.call 15 [.bor] [(.var 17)]), (.call 8 [] []), (.bin .add (.slice (.glob g_SIGNS) (.con .non) (.con (.int 7))) (.slice (.glob g_SIGNS) (.con (.int 8)) (.con .non))), (.glob g_LAST)])), (.asg (.name 4) (.con (.str [9, 10, 32, 33, 34, 35, 36, 38, 39, 40, 41, 42, 43, 44, 45, 46, 47, 48, 49, 50, 51, 52, 53, 54, 55, 56, 57, 58, 59, 60, 61, 62, 63, 64, 65, 66, 67, 68, 69, 70, 71, 72, 73, 74, 75, 76, 77, 78, 79, 80, 81, 82, 83, 84, 85, 86, 87, 88, 89, 90, 91, 92, 93, 94, 95, 96, 97, 98, 99, 100, 101, 102, 103, 104, 105, 106, 107, 108, 109, 110, 111, 112, 113, 114, 115, 116, 117, 118, 119, 120, 121, 122, 123, 124, 125, 126]))), (.ite (.orL [(.not_ (.call 19 [.bor, .bor] [(.var 2), (.lst [(.bi .len [(.var 19)]), (.bin .sub (.con (.int 97)) (.bi .len [(.var 19)])), (.call 23 [.bor] [(.var 19)]), (.tup [(.tup [(.con (.int 0)), (.con (.int 96))])]), (.var 4), (.con (.int 96))])])), (.cmp .ne (.bi .ord [(.sub (.glob g_SIGNS) (.con (.int 7)))]) (.con (.int 37)))]) [(.ret (.con (.bl false)))] []), (.asg (.name 5) (.call 18 [.io, .bor] [(.bvar 1), (.con (.int 97))])), (.asg (.name 6) (.sub (.call 20 [] []) (.var 5))), (.asg (.name 7) (.meth .join (.con (.str [])) [(.comp (.sub (.call 20 [] []) (.call 18 [.io, .bor] [(.bvar 1), (.con (.int 97))])) (.name 24) (.rng [(.call 18 [.io, .bor] [(.bvar 1), (.con (.int 6))])]) [] [24])])), (.asg (.name 8) (.bi .sorted [(.comp (.meth .find (.call 20 [] []) [(.sub (.var 7) (.var 24))]) (.name 24) (.rng [(.bi .len [(.var 7)])]) [(.cmp .notin (.sub (.var 7) (.var 24)) (.slice (.var 7) (.con .non) (.var 24)))] [24])])), (.ite (.not_ (.call 19 [.bor, .bor] [(.lst [(.call 13 [.bor, .bor] [(.var 17), (.var 6)]), (.call 4 [.bor] [(.var 6)]), (.call 5 [.bor] [(.var 5)]), (.call 3 [.bor] [(.var 7)]), (.call 22 [.bor] [(.call 7 [.bor] [(.var 7)])])]), (.lst [(.cmp .in_ (.var 5) (.var 19)), (.var 5), (.var 6), (.con (.bl true)), (.var 8)])])) [(.ret (.con (.bl false)))] []), (.ite (.orL [(.cmp .isnot (.call 2 [.bor] [(.call 7 [.bor] [(.var 7)])]) (.con (.bl true))), (.cmp .ne (.comp (.var 25) (.name 25) (.tup [(.con .non), (.con (.int 1)), (.lst [(.var 7)]), (.tup [(.var 7)])]) [(.cmp .isnot (.call 3 [.bor] [(.var 25)]) (.con (.bl false)))] [25]) (.lst []))]) [(.ret (.con (.bl false)))] []), (.asg (.name 9) (.call 16 [.bor] [(.lst [(.var 17), (.var 18)])])), (.asg (.name 10) (.comp (.tup [(.bi .int [(.cmp .in_ (.var 24) (.var 19))]), (.bi .int [(.cmp .in_ (.var 24) (.var 20))])]) (.name 24) (.var 21) [] [24])), (.asg (.name 11) (.comp (.var 23) (.name 23) (.tup [(.tup [(.con (.int 0)), (.con (.int 0))]), (.tup [(.con (.int 0)), (.con (.int 1))]), (.tup [(.con (.int 1)), (.con (.int 0))]), (.tup [(.con (.int 1)), (.con (.int 1))])]) [(.cmp .in_ (.var 23) (.var 10))] [23])), (.ite (.orL [(.cmp .ne (.bi .sorted [(.var 9)]) (.var 9)), (.cmp .ne (.bi .len [(.var 9)]) (.bi .len [(.var 11)]))]) [(.ret (.con (.bl false)))] []), (.for_ (.name 12) (.var 9) [(.asg (.name 22) (.call 22 [.bor] [(.var 12)])), (.asg (.name 23) (.sub (.var 10) (.sub (.var 22) (.con (.int 0))))), (.ite (.orL [(.not_ (.call 2 [.bor] [(.var 12)])), (.cmp .ne (.var 22) (.comp (.var 24) (.name 24) (.var 21) [(.cmp .eq (.sub (.var 10) (.var 24)) (.var 23))] [24])), (.cmp .ne (.sub (.var 9) (.call 17 [.bor, .bor] [(.var 9), (.sub (.call 20 [] []) (.sub (.var 22) (.con (.int 0))))])) (.var 12))]) [(.ret (.con (.bl false)))] [])]), (.asg (.name 13) (.call 18 [.io, .bor] [(.bvar 1), (.con (.int 50))])), (.asg (.name 14) (.lst [(.tup [(.var 13), (.var 13)]), (.tup [(.var 13), (.bin .add (.var 13) (.con (.int 1)))]), (.tup [(.bin .add (.var 13) (.con (.int 1))), (.var 13)]), (.tup [(.var 13)]), (.lst [(.var 13), (.var 13)]), (.con .non), (.tup [(.con (.bl true)), (.con (.int 2))]), (.tup [(.var 13), (.con (.int 97))]), (.tup [(.neg (.con (.int 1))), (.var 13)])])), (.ite (.not_ (.call 19 [.bor, .bor] [(.comp (.call 1 [.bor] [(.var 25)]) (.name 25) (.var 14) [] [25]), (.bin .add (.lst [(.con (.bl true)), (.con (.bl true))]) (.bin .mul (.lst [(.con (.bl false))]) (.con (.int 7))))])) [(.ret (.con (.bl false)))] []), (.asg (.name 14) (.lst [(.var 17), (.bi .list [(.var 17)]), (.tup [(.tup [(.con (.int 1)), (.con (.int 2))]), (.tup [(.con (.int 4)), (.con (.int 5))])]), (.tup [(.tup [(.con (.int 1)), (.con (.int 2))]), (.tup [(.con (.int 3)), (.con (.int 5))])]), (.tup [(.tup [(.con (.int 4)), (.con (.int 5))]), (.tup [(.con (.int 1)), (.con (.int 2))])]), (.tup [(.tup [(.con (.int 2)), (.con (.int 1))])]), (.tup [(.con .non)]), (.con .non), (.tup [(.tup [(.con (.int 1)), (.con (.int 3))]), (.tup [(.con (.int 2)), (.con (.int 5))])])])), (.ite (.not_ (.call 19 [.bor, .bor] [(.comp (.call 2 [.bor] [(.var 25)]) (.name 25) (.var 14) [] [25]), (.bin .add (.lst [(.con (.bl true)), (.con (.bl false)), (.con (.bl true))]) (.bin .mul (.lst [(.con (.bl false))]) (.con (.int 6))))])) [(.ret (.con (.bl false)))] []), (.ret (.call 19 [.bor, .bor] [(.comp (.call 0 [.bor] [(.var 25)]) (.name 25) (.lst [(.con (.int 0)), (.con (.int 7)), (.neg (.con (.int 1))), (.con (.bl true)), (.con .non), (.con (.str [49]))]) [] [25]), (.bin .add (.lst [(.con (.bl true)), (.con (.bl true))]) (.bin .mul (.lst [(.con (.bl false))]) (.con (.int 4))))]))] }
def fs : Nat → Option Fn
  | 0 => some f_is_count
  | 1 => some f_is_range
  | 2 => some f_is_signs
  | 3 => some f_is_text
  | 4 => some f_sign_number
  | 5 => some f_sign_of
  | 6 => some f_signs_by
  | 7 => some f_signs_in
  | 8 => some f_every_sign
  | 9 => some f_union_signs
  | 10 => some f_other_signs
  | 11 => some f_both_signs
  | 12 => some f_less_signs
  | 13 => some f_has_sign
  | 14 => some f_sign_count
  | 15 => some f_least_sign
  | 16 => some f_sign_classes
  | 17 => some f_class_of
  | 18 => some f__law_next
  | 19 => some f__law_same
  | 20 => some f__law_signs
  | 21 => some f__law_ranges
  | 22 => some f__law_codes
  | 23 => some f__law_least_one
  | 24 => some f_law
  | _ => none

def LVL : Nat := 20
def WFU : Nat := 1000
end K01
end -- terms

section -- K01M
/-! K01M: sets of whole numbers as rows of ranges: the mathematics of k01 alone. -/
set_option linter.all false
namespace K01M
abbrev RS := List (Int × Int)
def memR (c : Int) : RS → Bool
  | [] => false
  | p :: r => (decide (p.1 ≤ c) && decide (c ≤ p.2)) || memR c r
/-- rising, apart by more than one, the lows from b on, the highs to 96 -/
def Canon (b : Int) : RS → Prop
  | [] => True
  | p :: r => b ≤ p.1 ∧ p.1 ≤ p.2 ∧ p.2 ≤ 96 ∧ Canon (p.2 + 2) r
theorem Canon.mono : ∀ {rs : RS} {b b' : Int}, Canon b rs → b' ≤ b → Canon b' rs
  | [], _, _, _, _ => trivial
  | p :: r, b, b', h, hb => by
    obtain ⟨h1, h2⟩ := h
    exact ⟨by omega, h2⟩
theorem mem_low : ∀ {rs : RS} {b c : Int}, Canon b rs → c < b → memR c rs = false
  | [], _, _, _, _ => rfl
  | p :: r, b, c, h, hc => by
    obtain ⟨h1, h2, h3, h4⟩ := h
    unfold memR
    rw [mem_low h4 (by omega)]
    have : ¬ p.1 ≤ c := by omega
    simp [this]
theorem mem_high : ∀ {rs : RS} {b c : Int}, Canon b rs → 96 < c → memR c rs = false
  | [], _, _, _, _ => rfl
  | p :: r, b, c, h, hc => by
    obtain ⟨h1, h2, h3, h4⟩ := h
    unfold memR
    rw [mem_high h4 hc]
    have : ¬ c ≤ p.2 := by omega
    simp [this]
theorem canon_uniq : ∀ {xs ys : RS} {b b' : Int}, Canon b xs → Canon b' ys → (∀ c, memR c xs = memR c ys) → xs = ys
  | [], [], _, _, _, _, _ => rfl
  | [], q :: ys, b, b', _, hy, h => by
    obtain ⟨h1, h2, h3, h4⟩ := hy
    have := h q.1
    simp [memR, h2] at this
  | p :: xs, [], b, b', hx, _, h => by
    obtain ⟨h1, h2, h3, h4⟩ := hx
    have := h p.1
    simp [memR, h2] at this
  | p :: xs, q :: ys, b, b', hx, hy, h => by
    obtain ⟨x1, x2, x3, x4⟩ := hx
    obtain ⟨y1, y2, y3, y4⟩ := hy
    have e1 : p.1 = q.1 := by
      rcases Int.lt_trichotomy p.1 q.1 with z | z | z
      · have := h p.1
        have n1 : ¬ q.1 ≤ p.1 := by omega
        simp [memR, x2, n1, mem_low y4 (show p.1 < q.2 + 2 by omega)] at this
      · exact z
      · have := h q.1
        have n1 : ¬ p.1 ≤ q.1 := by omega
        simp [memR, y2, n1, mem_low x4 (show q.1 < p.2 + 2 by omega)] at this
    have e2 : p.2 = q.2 := by
      rcases Int.lt_trichotomy p.2 q.2 with z | z | z
      · have := h (p.2 + 1)
        have n1 : ¬ p.2 + 1 ≤ p.2 := by omega
        have n2 : q.1 ≤ p.2 + 1 := by omega
        have n3 : p.2 + 1 ≤ q.2 := by omega
        simp [memR, n1, n2, n3, mem_low x4 (show p.2 + 1 < p.2 + 2 by omega)] at this
      · exact z
      · have := h (q.2 + 1)
        have n1 : ¬ q.2 + 1 ≤ q.2 := by omega
        have n2 : p.1 ≤ q.2 + 1 := by omega
        have n3 : q.2 + 1 ≤ p.2 := by omega
        simp [memR, n1, n2, n3, mem_low y4 (show q.2 + 1 < q.2 + 2 by omega)] at this
    have e3 : p = q := Prod.ext e1 e2
    subst e3
    rw [canon_uniq x4 y4 fun c => ?_]
    by_cases hc : c < p.2 + 2
    · rw [mem_low x4 hc, mem_low y4 hc]
    · have := h c
      have n1 : ¬ c ≤ p.2 := by omega
      simpa [memR, n1] using this

/-! ### put together -/
def mg (p : Int × Int) : RS → RS
  | [] => [p]
  | q :: r => if q.1 ≤ p.2 + 1 then mg (p.1, max p.2 q.2) r else p :: mg q r
/-- a range within 0 .. 96 -/
def In (p : Int × Int) : Prop := 0 ≤ p.1 ∧ p.1 ≤ p.2 ∧ p.2 ≤ 96
theorem mg_ok : ∀ {r : RS} {p : Int × Int}, In p → (∀ q ∈ r, In q) → (p :: r).Pairwise (fun x y => x.1 ≤ y.1) → Canon p.1 (mg p r) ∧ ∀ c, memR c (mg p r) = memR c (p :: r)
  | [], p, hp, _, _ => by
    unfold mg
    exact ⟨⟨Int.le_refl _, hp.2.1, hp.2.2, trivial⟩, fun c => rfl⟩
  | q :: r, p, hp, hr, hs => by
    have hq := hr q List.mem_cons_self
    obtain ⟨s1, s2⟩ := List.pairwise_cons.mp hs
    have s3 := s1 q List.mem_cons_self
    unfold mg
    by_cases h : q.1 ≤ p.2 + 1
    · rw [if_pos h]
      have hin : In (p.1, max p.2 q.2) := ⟨hp.1, by have := hp.2.1; show p.1 ≤ max p.2 q.2; omega, by have := hp.2.2; have := hq.2.2; show max p.2 q.2 ≤ 96; omega⟩
      obtain ⟨i1, i2⟩ := mg_ok hin (fun x hx => hr x (List.mem_cons_of_mem _ hx)) (List.pairwise_cons.mpr ⟨fun x hx => s1 x (List.mem_cons_of_mem _ hx), (List.pairwise_cons.mp s2).2⟩)
      refine ⟨i1, fun c => ?_⟩
      rw [i2]
      have hq1 := hq.2.1
      simp only [memR]
      have : (decide (p.1 ≤ c) && decide (c ≤ max p.2 q.2)) = ((decide (p.1 ≤ c) && decide (c ≤ p.2)) || (decide (q.1 ≤ c) && decide (c ≤ q.2))) := by
        rw [Bool.eq_iff_iff]
        simp only [Bool.and_eq_true, Bool.or_eq_true, decide_eq_true_eq]
        omega
      rw [this, Bool.or_assoc]
    · rw [if_neg h]
      obtain ⟨i1, i2⟩ := mg_ok hq (fun x hx => hr x (List.mem_cons_of_mem _ hx)) s2
      refine ⟨⟨Int.le_refl _, hp.2.1, hp.2.2, i1.mono (by omega)⟩, fun c => ?_⟩
      rw [memR, i2]; rfl
/-- the others -/
def ot (here : Int) : RS → RS
  | [] => if here ≤ 96 then [(here, 96)] else []
  | p :: r => if here < p.1 then (here, p.1 - 1) :: ot (p.2 + 1) r else ot (p.2 + 1) r
theorem ot_ok : ∀ {r : RS} {here b : Int}, Canon b r → here ≤ b → Canon here (ot here r) ∧ ∀ c, memR c (ot here r) = (decide (here ≤ c) && decide (c ≤ 96) && !memR c r)
  | [], here, b, _, _ => by
    unfold ot
    by_cases h : here ≤ 96
    · rw [if_pos h]
      refine ⟨⟨Int.le_refl _, h, Int.le_refl _, trivial⟩, fun c => ?_⟩
      simp [memR]
    · rw [if_neg h]
      refine ⟨trivial, fun c => ?_⟩
      simp only [memR]
      rw [Bool.eq_iff_iff]
      simp
      omega
  | p :: r, here, b, hc, hb => by
    obtain ⟨h1, h2, h3, h4⟩ := hc
    obtain ⟨i1, i2⟩ := ot_ok h4 (show p.2 + 1 ≤ p.2 + 2 by omega)
    have key : ∀ c, memR c r = true → p.2 + 2 ≤ c := fun c hm => by
      by_cases z : c < p.2 + 2
      · rw [mem_low h4 z] at hm; cases hm
      · omega
    unfold ot
    by_cases h : here < p.1
    · rw [if_pos h]
      refine ⟨⟨Int.le_refl _, by show here ≤ p.1 - 1; omega, by show p.1 - 1 ≤ 96; omega, i1.mono (by show p.1 - 1 + 2 ≤ p.2 + 1; omega)⟩, fun c => ?_⟩
      rw [memR, i2, memR]
      have := key c
      cases hm : memR c r with
      | true =>
        have := this hm
        rw [Bool.eq_iff_iff]
        simp <;> omega
      | false =>
        rw [Bool.eq_iff_iff]
        simp <;> omega
    · rw [if_neg h]
      refine ⟨i1.mono (by omega), fun c => ?_⟩
      rw [i2, memR]
      have := key c
      cases hm : memR c r with
      | true =>
        have := this hm
        rw [Bool.eq_iff_iff]
        simp <;> omega
      | false =>
        rw [Bool.eq_iff_iff]
        simp <;> omega

/-! ### sorted, by lows and then by highs -/
def ltP (p q : Int × Int) : Bool := if p.1 = q.1 then decide (p.2 < q.2) else decide (p.1 < q.1)
def insP (x : Int × Int) : RS → RS
  | [] => [x]
  | y :: ys => if ltP y x then y :: insP x ys else x :: y :: ys
def sortP : RS → RS
  | [] => []
  | x :: xs => insP x (sortP xs)
theorem insP_mem {x z : Int × Int} : ∀ {l : RS}, z ∈ insP x l ↔ z = x ∨ z ∈ l
  | [] => by simp [insP]
  | y :: ys => by
    unfold insP
    by_cases h : ltP y x = true
    · rw [if_pos h, List.mem_cons, insP_mem, List.mem_cons]
      constructor
      · rintro (h | h | h)
        · exact .inr (.inl h)
        · exact .inl h
        · exact .inr (.inr h)
      · rintro (h | h | h)
        · exact .inr (.inl h)
        · exact .inl h
        · exact .inr (.inr h)
    · rw [if_neg h, List.mem_cons]
theorem sortP_mem {z : Int × Int} : ∀ {l : RS}, z ∈ sortP l ↔ z ∈ l
  | [] => Iff.rfl
  | x :: xs => by unfold sortP; rw [insP_mem, sortP_mem, List.mem_cons]
theorem ltP_le {p q : Int × Int} (h : ltP p q = true) : p.1 ≤ q.1 := by
  unfold ltP at h
  by_cases e : p.1 = q.1
  · omega
  · rw [if_neg e] at h; have := of_decide_eq_true h; omega
theorem not_ltP {p q : Int × Int} (h : ¬ ltP p q = true) : q.1 ≤ p.1 := by
  unfold ltP at h
  by_cases e : p.1 = q.1
  · omega
  · rw [if_neg e] at h
    have : ¬ p.1 < q.1 := fun z => h (decide_eq_true z)
    omega
theorem insP_srt {x : Int × Int} : ∀ {l : RS}, l.Pairwise (fun p q => p.1 ≤ q.1) → (insP x l).Pairwise (fun p q => p.1 ≤ q.1)
  | [], _ => List.pairwise_singleton _ _
  | y :: ys, h => by
    obtain ⟨h1, h2⟩ := List.pairwise_cons.mp h
    unfold insP
    by_cases e : ltP y x = true
    · rw [if_pos e]
      refine List.pairwise_cons.mpr ⟨fun z hz => ?_, insP_srt h2⟩
      rcases insP_mem.mp hz with hz | hz
      · rw [hz]; exact ltP_le e
      · exact h1 z hz
    · rw [if_neg e]
      refine List.pairwise_cons.mpr ⟨fun z hz => ?_, h⟩
      rcases List.mem_cons.mp hz with hz | hz
      · rw [hz]; exact not_ltP e
      · have := h1 z hz; have := not_ltP e; omega
theorem sortP_srt : ∀ l : RS, (sortP l).Pairwise (fun p q => p.1 ≤ q.1)
  | [] => List.Pairwise.nil
  | x :: xs => insP_srt (sortP_srt xs)
theorem memR_iff {c : Int} : ∀ {rs : RS}, memR c rs = true ↔ ∃ p ∈ rs, p.1 ≤ c ∧ c ≤ p.2
  | [] => by simp [memR]
  | p :: r => by
    unfold memR
    rw [Bool.or_eq_true, memR_iff]
    simp
theorem memR_congr {rs qs : RS} (h : ∀ p, p ∈ rs ↔ p ∈ qs) (c : Int) : memR c rs = memR c qs := by
  rw [Bool.eq_iff_iff, memR_iff, memR_iff]
  simp only [h]
theorem memR_append {c : Int} : ∀ {rs qs : RS}, memR c (rs ++ qs) = (memR c rs || memR c qs)
  | [], qs => rfl
  | p :: r, qs => by rw [List.cons_append, memR, memR, memR_append, Bool.or_assoc]
def sb (rs : RS) : RS := match sortP rs with
  | [] => []
  | p :: r => mg p r
theorem sb_ok {rs : RS} (h : ∀ p ∈ rs, In p) : Canon 0 (sb rs) ∧ ∀ c, memR c (sb rs) = memR c rs := by
  have hs := sortP_srt rs
  have hm : ∀ p, p ∈ sortP rs ↔ p ∈ rs := fun p => sortP_mem
  unfold sb
  cases e : sortP rs with
  | nil =>
    rw [e] at hm
    refine ⟨trivial, fun c => ?_⟩
    exact memR_congr hm c
  | cons p r =>
    rw [e] at hs hm
    have hin : ∀ q ∈ p :: r, In q := fun q hq => h q ((hm q).mp hq)
    obtain ⟨h1, h2⟩ := mg_ok (hin p List.mem_cons_self) (fun q hq => hin q (List.mem_cons_of_mem _ hq)) hs
    exact ⟨h1.mono (hin p List.mem_cons_self).1, fun c => by rw [h2]; exact memR_congr hm c⟩
theorem Canon.inn : ∀ {rs : RS} {b : Int}, Canon b rs → 0 ≤ b → ∀ p ∈ rs, In p
  | [], _, _, _, p, hp => absurd hp (by simp)
  | q :: r, b, h, hb, p, hp => by
    obtain ⟨h1, h2, h3, h4⟩ := h
    rcases List.mem_cons.mp hp with e | hp
    · rw [e]; exact ⟨by omega, h2, h3⟩
    · exact h4.inn (by omega) p hp
def un (xs ys : RS) : RS := sb (xs ++ ys)
def oth (xs : RS) : RS := ot 0 xs
def bo (xs ys : RS) : RS := oth (un (oth xs) (oth ys))
def le (xs ys : RS) : RS := bo xs (oth ys)
def inW (c : Int) : Bool := decide (0 ≤ c) && decide (c ≤ 96)
theorem canon_W {rs : RS} (h : Canon 0 rs) (c : Int) : memR c rs = (inW c && memR c rs) := by
  by_cases h1 : 0 ≤ c
  · by_cases h2 : c ≤ 96
    · simp [inW, h1, h2]
    · rw [mem_high h (by omega)]; simp
  · rw [mem_low h (by omega)]; simp
theorem un_ok {xs ys : RS} (hx : Canon 0 xs) (hy : Canon 0 ys) : Canon 0 (un xs ys) ∧ ∀ c, memR c (un xs ys) = (memR c xs || memR c ys) := by
  obtain ⟨h1, h2⟩ := sb_ok (rs := xs ++ ys) fun p hp => (List.mem_append.mp hp).elim (hx.inn (Int.le_refl 0) p) (hy.inn (Int.le_refl 0) p)
  exact ⟨h1, fun c => by rw [show memR c (un xs ys) = memR c (sb (xs ++ ys)) from rfl, h2, memR_append]⟩
theorem oth_ok {xs : RS} (hx : Canon 0 xs) : Canon 0 (oth xs) ∧ ∀ c, memR c (oth xs) = (inW c && !memR c xs) := by
  obtain ⟨h1, h2⟩ := ot_ok hx (Int.le_refl 0)
  exact ⟨h1, h2⟩
theorem bo_ok {xs ys : RS} (hx : Canon 0 xs) (hy : Canon 0 ys) : Canon 0 (bo xs ys) ∧ ∀ c, memR c (bo xs ys) = (memR c xs && memR c ys) := by
  obtain ⟨x1, x2⟩ := oth_ok hx
  obtain ⟨y1, y2⟩ := oth_ok hy
  obtain ⟨u1, u2⟩ := un_ok x1 y1
  obtain ⟨o1, o2⟩ := oth_ok u1
  refine ⟨o1, fun c => ?_⟩
  show memR c (oth (un (oth xs) (oth ys))) = _
  rw [o2, u2, x2, y2, canon_W hx c, canon_W hy c]
  cases inW c <;> cases memR c xs <;> cases memR c ys <;> rfl
theorem le_ok {xs ys : RS} (hx : Canon 0 xs) (hy : Canon 0 ys) : Canon 0 (le xs ys) ∧ ∀ c, memR c (le xs ys) = (memR c xs && !memR c ys) := by
  obtain ⟨y1, y2⟩ := oth_ok hy
  obtain ⟨b1, b2⟩ := bo_ok hx y1
  refine ⟨b1, fun c => ?_⟩
  show memR c (bo xs (oth ys)) = _
  rw [b2, y2, canon_W hx c]
  cases inW c <;> cases memR c xs <;> cases memR c ys <;> rfl

/-! ### codes, counted -/
def cod (rs : RS) : List Nat := (List.range 97).filter fun k => memR (k : Int) rs
theorem cod_congr {xs ys : RS} (h : ∀ c, memR c xs = memR c ys) : cod xs = cod ys := by unfold cod; simp only [h]
def sumR : RS → Int
  | [] => 0
  | p :: r => (p.2 - p.1 + 1) + sumR r
theorem filter_or {f g : Nat → Bool} (h : ∀ k, f k = true → g k = false) : ∀ l : List Nat, (l.filter fun k => f k || g k).length = (l.filter f).length + (l.filter g).length
  | [] => rfl
  | x :: xs => by
    have ih := filter_or h xs
    cases hf : f x with
    | true =>
      have hg := h x hf
      simp [List.filter_cons, hf, hg, ih] <;> omega
    | false =>
      cases hg : g x with
      | true => simp [List.filter_cons, hf, hg, ih] <;> omega
      | false => simp [List.filter_cons, hf, hg, ih]
theorem filter_iv (l h : Int) (h0 : 0 ≤ l) (h1 : l ≤ h) : ∀ n : Nat, (((List.range n).filter fun (k : Nat) => decide (l ≤ (k : Int)) && decide ((k : Int) ≤ h)).length : Int) = if (n : Int) ≤ l then 0 else if (n : Int) ≤ h then n - l else h - l + 1
  | 0 => by simp; omega
  | n + 1 => by
    have ih := filter_iv l h h0 h1 n
    rw [List.range_succ, List.filter_append, List.length_append]
    by_cases a : l ≤ (n : Int)
    · by_cases b : (n : Int) ≤ h
      · simp only [List.filter_cons, a, b, decide_true, Bool.and_self, if_true, List.filter_nil, List.length_cons, List.length_nil]
        push_cast
        rw [ih]
        split <;> split <;> (try split) <;> (try split) <;> omega
      · simp only [List.filter_cons, a, b, decide_true, decide_false, Bool.and_false, Bool.false_eq_true, if_false, List.filter_nil, List.length_nil]
        push_cast
        rw [Int.add_zero, ih]
        split <;> split <;> (try split) <;> (try split) <;> omega
    · simp only [List.filter_cons, a, decide_false, Bool.false_and, Bool.false_eq_true, if_false, List.filter_nil, List.length_nil]
      push_cast
      rw [Int.add_zero, ih]
      split <;> split <;> (try split) <;> (try split) <;> omega
theorem cod_len : ∀ {rs : RS} {b : Int}, Canon b rs → 0 ≤ b → ((cod rs).length : Int) = sumR rs
  | [], _, _, _ => by simp [cod, memR, sumR]
  | p :: r, b, h, hb => by
    obtain ⟨h1, h2, h3, h4⟩ := h
    have ih := cod_len h4 (by omega)
    have e := filter_or (f := fun (k : Nat) => decide (p.1 ≤ (k : Int)) && decide ((k : Int) ≤ p.2)) (g := fun (k : Nat) => memR (k : Int) r) (fun k hk => by
      simp at hk
      exact mem_low h4 (by omega)) (List.range 97)
    have e2 : (cod (p :: r)).length = ((List.range 97).filter fun (k : Nat) => (decide (p.1 ≤ (k : Int)) && decide ((k : Int) ≤ p.2)) || memR (k : Int) r).length := rfl
    rw [e2, e]
    push_cast
    rw [filter_iv p.1 p.2 (by omega) h2 97]
    have : (((List.range 97).filter fun (k : Nat) => memR (k : Int) r).length : Int) = sumR r := ih
    rw [this]
    rw [show sumR (p :: r) = (p.2 - p.1 + 1) + sumR r from rfl]
    rw [if_neg (by omega), if_neg (by omega)]
    try omega
end K01M
end -- K01M

section -- K01E
set_option Elab.async false
set_option linter.all false
set_option maxRecDepth 100000
set_option maxHeartbeats 4000000
/-! K01E: what the defs of k01 answer, told by the evaluator. -/
namespace K01
open Ev K01M
abbrev cf (n : Nat) : CF := evF fs WFU n
theorem cf_eq {n f : Nat} {g : Fn} {ds : List D} (hf : fs f = some g) (hl : ds.length = g.ms.length) : evF fs WFU (n + 1) f ds = finE g.ms (evSs (evF fs WFU n) WFU g.body (startE g.n ds)) := by
  rw [evF, hf]; simp only [hl, if_true]
theorem loop_fm {step : D → Env → Out (Option D)} {ρ : Env} {f : D → Option D} : ∀ {xs acc : List D}, (∀ x ∈ xs, step x ρ = .ok (f x) ρ) → compLoop step xs acc ρ = .ok (acc ++ xs.filterMap f) ρ
  | [], acc, _ => by simp [compLoop]
  | x :: xs, acc, h => by
    unfold compLoop
    rw [h x List.mem_cons_self]
    cases e : f x with
    | none => simp only []; rw [loop_fm fun y hy => h y (List.mem_cons_of_mem _ hy)]; simp [List.filterMap_cons, e]
    | some d => simp only []; rw [loop_fm fun y hy => h y (List.mem_cons_of_mem _ hy)]; simp [List.filterMap_cons, e]

/-! ### data -/
def encP (p : Int × Int) : D := .tup [.int p.1, .int p.2]
def enc (rs : RS) : D := .tup (rs.map encP)
def encl (rs : RS) : D := .lst (rs.map encP)
def iN (k : Nat) : D := .int (k : Int)
def cI (l : List Nat) : D := .lst (l.map iN)
theorem eqD_int (a b : Int) : eqD (.int a) (.int b) = decide (a = b) := by rw [eqD]; rfl
theorem eqD_encP (p q : Int × Int) : eqD (encP p) (encP q) = decide (p = q) := by
  unfold encP
  rw [eqD, eqL, eqL, eqL, eqD_int, eqD_int]
  rw [Bool.eq_iff_iff]
  simp [Prod.ext_iff]
theorem eqL_map {α : Type} [DecidableEq α] (f : α → D) (h : ∀ a b, eqD (f a) (f b) = decide (a = b)) : ∀ xs ys : List α, eqL (xs.map f) (ys.map f) = decide (xs = ys)
  | [], [] => by simp [eqL]
  | [], _ :: _ => by simp [eqL]
  | _ :: _, [] => by simp [eqL]
  | x :: xs, y :: ys => by
    rw [List.map_cons, List.map_cons, eqL, h, eqL_map f h xs ys, Bool.eq_iff_iff]
    simp
theorem plain_map {α : Type} (f : α → D) (h : ∀ a, plainD (f a) = true) : ∀ xs : List α, plainL (xs.map f) = true
  | [] => by simp [plainL]
  | x :: xs => by rw [List.map_cons, plainL, h, plain_map f h xs]; rfl
theorem depth_map {α : Type} {k : Nat} (f : α → D) (h : ∀ a, depthD (f a) ≤ k) : ∀ xs : List α, depthL (xs.map f) ≤ k
  | [] => by simp [depthL]
  | x :: xs => by
    have := h x
    have := depth_map f h xs
    rw [List.map_cons, depthL]; omega
theorem plain_encP (p : Int × Int) : plainD (encP p) = true := by simp [encP, plainD, plainL]
theorem depth_encP (p : Int × Int) : depthD (encP p) = 1 := by simp [encP, depthD, depthL]
theorem plain_enc (rs : RS) : plainD (enc rs) = true := by unfold enc; rw [plainD]; exact plain_map _ plain_encP rs
theorem depth_enc (rs : RS) : depthD (enc rs) ≤ 2 := by
  unfold enc; rw [depthD]
  have := depth_map (k := 1) encP (fun p => by rw [depth_encP]; exact Nat.le_refl _) rs
  omega
theorem eqD_enc (xs ys : RS) : eqD (enc xs) (enc ys) = decide (xs = ys) := by
  unfold enc; rw [eqD]; exact eqL_map encP eqD_encP xs ys
theorem plain_iN (k : Nat) : plainD (iN k) = true := by simp [iN, plainD]
theorem depth_iN (k : Nat) : depthD (iN k) = 0 := by simp [iN, depthD]
theorem eqD_iN (a b : Nat) : eqD (iN a) (iN b) = decide (a = b) := by
  unfold iN; rw [eqD_int, Bool.eq_iff_iff]; simp [Int.ofNat_inj]
theorem plain_cI (l : List Nat) : plainD (cI l) = true := by unfold cI; rw [plainD]; exact plain_map _ plain_iN l
theorem depth_cI (l : List Nat) : depthD (cI l) ≤ 1 := by
  unfold cI; rw [depthD]
  have := depth_map (k := 0) iN (fun p => by rw [depth_iN]; exact Nat.le_refl _) l
  omega
theorem eqD_cI (xs ys : List Nat) : eqD (cI xs) (cI ys) = decide (xs = ys) := by
  unfold cI; rw [eqD]; exact eqL_map iN eqD_iN xs ys
theorem opEq_enc (xs ys : RS) : opEq (enc xs) (enc ys) = some (decide (xs = ys)) := by
  have := depth_enc xs
  have h : decide (min (depthD (enc xs)) (depthD (enc ys)) ≤ 100) = true := decide_eq_true (by omega)
  unfold opEq okEq
  rw [plain_enc, plain_enc, h, eqD_enc]; rfl
theorem opEq_cI (xs ys : List Nat) : opEq (cI xs) (cI ys) = some (decide (xs = ys)) := by
  have := depth_cI xs
  have h : decide (min (depthD (cI xs)) (depthD (cI ys)) ≤ 100) = true := decide_eq_true (by omega)
  unfold opEq okEq
  rw [plain_cI, plain_cI, h, eqD_cI]; rfl
theorem allOk_iN (a : Nat) : ∀ l : List Nat, allOk (iN a) (l.map iN) = true
  | [] => by simp [allOk]
  | x :: xs => by
    rw [List.map_cons, allOk, allOk_iN a xs]
    unfold okEq
    rw [plain_iN, plain_iN, depth_iN, depth_iN]; rfl
theorem anyEq_iN (a : Nat) : ∀ l : List Nat, anyEq (iN a) (l.map iN) = decide (a ∈ l)
  | [] => by simp [anyEq]
  | x :: xs => by
    rw [List.map_cons, anyEq, anyEq_iN a xs, eqD_iN, Bool.eq_iff_iff]
    simp only [Bool.or_eq_true, decide_eq_true_eq, List.mem_cons]
    exact or_congr eq_comm Iff.rfl
theorem opIn_cI (a : Nat) (l : List Nat) : opIn (iN a) (cI l) = some (decide (a ∈ l)) := by
  unfold cI opIn
  simp only []
  rw [allOk_iN, anyEq_iN]; rfl
theorem rangeD_nat (n : Nat) : rangeD 0 (n : Int) = (List.range n).map iN := by
  unfold rangeD iN
  have : ((n : Int) - 0).toNat = n := by omega
  rw [this]
  simp only [Int.zero_add]
/-! ### sorted -/
theorem okLt_encP (p q : Int × Int) : okLt (encP p) (encP q) = true := by
  unfold encP
  simp [okLt, okLtL, okEq, plainD, depthD]
theorem ltD_encP (p q : Int × Int) : ltD (encP p) (encP q) = ltP p q := by
  unfold encP ltP
  simp [ltD, ltL, eqD]
  by_cases h : p.2 = q.2 <;> simp [h]
theorem ins_encP (p : Int × Int) : ∀ l : RS, sortD.insRev (encP p) (l.map encP) = (insP p l).map encP
  | [] => by simp [sortD.insRev, insP]
  | q :: l => by
    rw [List.map_cons, sortD.insRev, ltD_encP, insP, ins_encP p l]
    by_cases h : ltP q p = true
    · simp [h]
    · simp [h]
theorem sort_encP : ∀ l : RS, sortD (l.map encP) = (sortP l).map encP
  | [] => by simp [sortD, sortP]
  | p :: l => by rw [List.map_cons, sortD, sort_encP l, ins_encP, sortP]
theorem sortable_encP (l : RS) : sortable (l.map encP) = true := by
  unfold sortable
  have h1 : ((l.map encP).all fun x => decide (depthD x ≤ 100) && (l.map encP).all fun y => okLt x y) = true := by
    rw [List.all_map, List.all_eq_true]
    intro p _
    simp only [Function.comp, depth_encP, Bool.and_eq_true, List.all_map, List.all_eq_true]
    exact ⟨by decide, fun q _ => okLt_encP p q⟩
  have h2 : (l.map encP).all (headIs isIntD) = true := by
    rw [List.all_map, List.all_eq_true]
    intro p _
    rfl
  rw [h1, h2]
  simp
theorem sortP_len : ∀ l : RS, (sortP l).length = l.length
  | [] => rfl
  | x :: xs => by
    have hi : ∀ (x : Int × Int) (l : RS), (insP x l).length = l.length + 1 := fun x l => by
      induction l with
      | nil => rfl
      | cons y ys ih =>
        unfold insP
        by_cases h : ltP y x = true
        · rw [if_pos h]; simp [ih]
        · rw [if_neg h]; simp
    unfold sortP
    rw [hi, sortP_len xs]; rfl
theorem opB_sorted (l : RS) : opB .sorted [encl l] = some (encl (sortP l)) := by
  unfold opB encl
  simp only [seqD]
  rw [sortable_encP, sort_encP]; rfl
end K01
end -- K01E

section -- K01E2
set_option Elab.async false
set_option linter.all false
set_option maxRecDepth 100000
set_option maxHeartbeats 4000000
namespace K01
open Ev K01M
theorem Canon_len : ∀ {rs : RS} {b : Int}, Canon b rs → b ≤ 98 → b + 2 * (rs.length : Int) ≤ 98
  | [], b, _, hb => by simp; exact hb
  | p :: r, b, h, hb => by
    obtain ⟨h1, h2, h3, h4⟩ := h
    have := Canon_len h4 (by omega)
    simp only [List.length_cons]
    push_cast
    omega
theorem Canon.len {rs : RS} (h : Canon 0 rs) : rs.length ≤ 49 := by
  have := Canon_len h (by omega)
  omega
/-! ### signs_by -/
theorem ix_last {α : Type} (xs : List α) (x : α) : ixI (xs ++ [x]).length (-1) = some xs.length := by
  unfold ixI
  rw [if_neg (by omega), if_pos (by simp; omega), List.length_append]
  congr 1
  simp
  omega
theorem at_last {α : Type} (xs : List α) (x : α) : atD (xs ++ [x]) (-1) = some x := by
  unfold atD
  rw [ix_last]
  simp
theorem sub_last (xs : RS) (x : Int × Int) : opSub (encl (xs ++ [x])) (.int (-1)) = some (encP x) := by
  unfold opSub encl
  simp only [List.map_append, List.map_cons, List.map_nil]
  exact at_last _ _
theorem set_last (xs : RS) (x y : Int × Int) : opSet (encl (xs ++ [x])) (.int (-1)) (encP y) = some (encl (xs ++ [y])) := by
  unfold opSet encl
  simp only [List.map_append, List.map_cons, List.map_nil]
  rw [ix_last]
  simp
theorem ne_nil (xs : RS) (x : Int × Int) : opCmp .ne (encl (xs ++ [x])) (.lst []) = some true := by
  have h : okEq (encl (xs ++ [x])) (.lst []) = true := by
    unfold okEq
    have : plainD (encl (xs ++ [x])) = true := by unfold encl; rw [plainD]; exact plain_map _ plain_encP _
    rw [this]
    simp [plainD, plainL, depthD, depthL]
    omega
  show (opEq _ _).map (!·) = _
  unfold opEq
  rw [h]
  unfold encl
  cases xs <;> simp [eqD, eqL]
theorem sub0 (x : Int × Int) : opSub (encP x) (.int 0) = some (.int x.1) := by simp [encP, opSub, atD, ixI]
theorem sub1 (x : Int × Int) : opSub (encP x) (.int 1) = some (.int x.2) := by simp [encP, opSub, atD, ixI]
theorem max_e (a b : Int) : (if b > a then b else a) = max a b := by omega
def sbS : List S := [(.ite (.andL [(.cmp .ne (.bvar 1) (.lst [])), (.cmp .le (.var 2) (.bin .add (.sub (.sub (.bvar 1) (.neg (.con (.int 1)))) (.con (.int 1))) (.con (.int 1))))]) [(.setI 1 (.neg (.con (.int 1))) (.tup [(.sub (.sub (.bvar 1) (.neg (.con (.int 1)))) (.con (.int 0))), (.bi .max2 [(.sub (.sub (.bvar 1) (.neg (.con (.int 1)))) (.con (.int 1))), (.var 3)])]))] [(.append 1 (.tup [(.var 2), (.var 3)]))])]
def sbB (c : CF) : D → Env → SOut := fun x ρ => match bindT (.tup [.name 2, .name 3]) x ρ with
      | some ρ => evSs c WFU sbS ρ
      | none => .stuck
theorem sb_first (r0 : Option D) (a b : Option D) (q : Int × Int) (c : CF) : sbB c (encP q) [r0, some (.lst []), a, b] = .next [r0, some (encl [q]), some (.int q.1), some (.int q.2)] := by
  simp [sbB, sbS, encl, bindT, bindTs, encP, evSs, evS, testE, evE, evAnd, evEs, Out.bind, Out.toS, SOut.then, lift, gv, opCmp, opEq, okEq, plainD, plainL, depthD, depthL, eqD, eqL, truthD]
theorem sb_next (r0 : Option D) (a b : Option D) (q p : Int × Int) (acc : RS) (c : CF) (hl : acc.length < 10000) : sbB c (encP q) [r0, some (encl (acc ++ [p])), a, b] =
    .next [r0, some (encl (if q.1 ≤ p.2 + 1 then acc ++ [(p.1, max p.2 q.2)] else acc ++ [p] ++ [q])), some (.int q.1), some (.int q.2)] := by
  have hb : bindT (.tup [.name 2, .name 3]) (encP q) [r0, some (encl (acc ++ [p])), a, b] = some [r0, some (encl (acc ++ [p])), some (.int q.1), some (.int q.2)] := by
    simp [bindT, bindTs, encP]
  unfold sbB
  rw [hb]
  have hn := ne_nil acc p
  have hs := sub_last acc p
  have hle : opCmp .le (.int q.1) (.int (p.2 + 1)) = some (decide (q.1 ≤ p.2 + 1)) := rfl
  have hseq : ∀ y, opSet (encl (acc ++ [p])) (.int (-1)) (encP y) = some (encl (acc ++ [y])) := set_last acc p
  have he : encl (acc ++ [p]) = .lst ((acc ++ [p]).map encP) := rfl
  by_cases h : q.1 ≤ p.2 + 1
  · have hs2 : opSet (encl (acc ++ [p])) (.int (-1)) (.tup [.int p.1, .int (max p.2 q.2)]) = some (encl (acc ++ [(p.1, max p.2 q.2)])) := hseq (p.1, max p.2 q.2)
    have hm : opB .max2 [.int p.2, .int q.2] = some (.int (max p.2 q.2)) := by simp only [opB, max_e]
    have hd : decide (q.1 ≤ p.2 + 1) = true := decide_eq_true h
    simp [sbS, evSs, evS, testE, evE, evAnd, evEs, Out.bind, Out.toS, SOut.then, lift, gv, hn, hs, sub0, sub1, opBin, hle, hd, truthD, hm, hs2, h]
    rw [he]
  · have hd : decide (q.1 ≤ p.2 + 1) = false := decide_eq_false h
    have hl2 : ((acc ++ [p]).map encP).length < LIM := by show _ < 16777216; simp; omega
    simp [sbS, evSs, evS, testE, evE, evAnd, evEs, Out.bind, Out.toS, SOut.then, lift, gv, hn, hs, sub0, sub1, opBin, hle, hd, truthD, h]
    rw [he]
    simp only [hl2, if_true]
    simp [encl, encP]
theorem sb_loop (r0 : Option D) (c : CF) : ∀ (r : RS) (p : Int × Int) (acc : RS) (a b : Option D), acc.length + r.length < 9999 → ∃ a' b', forLoop (sbB c) (r.map encP) [r0, some (encl (acc ++ [p])), a, b] = .next [r0, some (encl (acc ++ mg p r)), a', b']
  | [], p, acc, a, b, _ => ⟨a, b, rfl⟩
  | q :: r, p, acc, a, b, h => by
    simp only [List.length_cons] at h
    rw [List.map_cons, forLoop, sb_next r0 a b q p acc c (by omega)]
    unfold mg
    by_cases e : q.1 ≤ p.2 + 1
    · simp only [e, if_true]
      exact sb_loop r0 c r _ acc _ _ (by omega)
    · simp only [e, if_false]
      have := sb_loop r0 c r q (acc ++ [p]) (some (.int q.1)) (some (.int q.2)) (by simp; omega)
      simpa using this
theorem l_signs_by {n : Nat} (hn : 1 ≤ n) (rs : RS) (d : D) (hd : seqD d = some (rs.map encP)) (h : rs.length < 9999) : evF fs WFU n 6 [d] = .ok (enc (sb rs)) [] := by
  obtain ⟨n, rfl⟩ := Nat.exists_eq_add_of_le' hn
  rw [cf_eq (g := f_signs_by) rfl rfl]
  have hso : opB .sorted [d] = some (encl (sortP rs)) := by
    unfold opB
    simp only []
    rw [hd]
    simp only []
    rw [sortable_encP, sort_encP]; rfl
  have hit : itemsD (encl (sortP rs)) = some ((sortP rs).map encP) := rfl
  have hlen := sortP_len rs
  have key : ∃ a b, forLoop (sbB (evF fs WFU n)) ((sortP rs).map encP) [some d, some (.lst []), none, none] = .next [some d, some (encl (sb rs)), a, b] := by
    unfold sb
    cases e : sortP rs with
    | nil => exact ⟨none, none, rfl⟩
    | cons p r =>
      rw [e] at hlen
      simp only [List.length_cons] at hlen
      rw [List.map_cons, forLoop, sb_first]
      exact sb_loop _ _ r p [] _ _ (by simp; omega)
  obtain ⟨a, b, key⟩ := key
  have key2 : forLoop (fun x ρ => match bindT (.tup [.name 2, .name 3]) x ρ with
      | some ρ => evSs (evF fs WFU n) WFU sbS ρ
      | none => .stuck) ((sortP rs).map encP) [some d, some (.lst []), none, none] = .next [some d, some (encl (sb rs)), a, b] := key
  have ht : opB .tuple [encl (sb rs)] = some (enc (sb rs)) := rfl
  have hfo : evS (evF fs WFU n) WFU (.for_ (.tup [(.name 2), (.name 3)]) (.bi .sorted [(.bvar 0)]) sbS) [some d, some (.lst []), none, none] = .next [some d, some (encl (sb rs)), a, b] := by
    rw [evS]
    have e1 : evE (evF fs WFU n) (.bi .sorted [(.bvar 0)]) [some d, some (.lst []), none, none] = .ok (encl (sortP rs)) [some d, some (.lst []), none, none] := by
      simp [evE, evEs, Out.bind, lift, gv, hso]
    rw [e1]
    simp only [Out.toS, hit]
    exact key2
  have e0 : evS (evF fs WFU n) WFU (.asgO 1 (.lst [])) (startE 4 [d]) = .next [some d, some (.lst []), none, none] := by
    simp [evS, evE, evEs, Out.bind, Out.toS, isMut, startE, List.replicate]
  show finE [.bor] (evSs _ _ [_, .for_ _ _ sbS, _] (startE 4 [d])) = _
  rw [evSs, e0]
  simp only [SOut.then]
  rw [evSs, hfo]
  simp [SOut.then, evSs, evS, evE, evEs, Out.bind, Out.toS, lift, gv, ht, finE, outsOf]
end K01
end -- K01E2

section -- K01E3
set_option Elab.async false
set_option linter.all false
set_option maxRecDepth 100000
set_option maxHeartbeats 4000000
namespace K01
open Ev K01M
theorem l_union {n : Nat} (hn : 2 ≤ n) {xs ys : RS} (hx : Canon 0 xs) (hy : Canon 0 ys) : evF fs WFU n 9 [enc xs, enc ys] = .ok (enc (un xs ys)) [] := by
  obtain ⟨n, rfl⟩ := Nat.exists_eq_add_of_le' (show 1 ≤ n by omega)
  rw [cf_eq (g := f_union_signs) rfl rfl]
  have h1 := Canon.len hx
  have h2 := Canon.len hy
  have hb : opBin .add (enc xs) (enc ys) = some (enc (xs ++ ys)) := by
    have : (xs.map encP).length + (ys.map encP).length ≤ LIM := by show _ ≤ 16777216; simp; omega
    simp only [opBin, enc, this, if_true, List.map_append]
  have hc := l_signs_by (n := n) (by omega) (xs ++ ys) (enc (xs ++ ys)) rfl (by simp; omega)
  simp [f_union_signs, startE, evSs, evS, evE, evEs, Out.bind, Out.toS, SOut.then, lift, gv, finE, outsOf, hb, hc, putIO, reread, un]
/-! ### other_signs -/
def otS : List S := [(.ite (.cmp .lt (.var 2) (.var 3)) [(.append 1 (.tup [(.var 2), (.bin .sub (.var 3) (.con (.int 1)))]))] []), (.asg (.name 2) (.bin .add (.var 4) (.con (.int 1))))]
def otB (c : CF) : D → Env → SOut := fun x ρ => match bindT (.tup [.name 3, .name 4]) x ρ with
      | some ρ => evSs c WFU otS ρ
      | none => .stuck
theorem ot_step (r0 a b : Option D) (q : Int × Int) (acc : RS) (here : Int) (c : CF) (hl : acc.length < 10000) : otB c (encP q) [r0, some (encl acc), some (.int here), a, b] =
    .next [r0, some (encl (if here < q.1 then acc ++ [(here, q.1 - 1)] else acc)), some (.int (q.2 + 1)), some (.int q.1), some (.int q.2)] := by
  have hb : bindT (.tup [.name 3, .name 4]) (encP q) [r0, some (encl acc), some (.int here), a, b] = some [r0, some (encl acc), some (.int here), some (.int q.1), some (.int q.2)] := by
    simp [bindT, bindTs, encP]
  unfold otB
  rw [hb]
  have hlt : opCmp .lt (.int here) (.int q.1) = some (decide (here < q.1)) := by simp [opCmp, opLt, okLt, depthD, ltD]
  have he : encl acc = .lst (acc.map encP) := rfl
  by_cases h : here < q.1
  · have hd : decide (here < q.1) = true := decide_eq_true h
    have hl2 : (acc.map encP).length < LIM := by show _ < 16777216; simp; omega
    simp [otS, evSs, evS, testE, evE, evAnd, evEs, Out.bind, Out.toS, SOut.then, lift, gv, opBin, hlt, hd, truthD, h]
    rw [he]
    simp only [hl2, if_true]
    simp [encl, encP, bindT]
  · have hd : decide (here < q.1) = false := decide_eq_false h
    simp [otS, evSs, evS, testE, evE, evAnd, evEs, Out.bind, Out.toS, SOut.then, lift, gv, opBin, hlt, hd, truthD, h, bindT]
theorem ot_nil (here : Int) : ot here [] = if here ≤ 96 then [(here, 96)] else [] := rfl
/-- the row so far, where it stands, the end of it -/
def otE (here : Int) : RS → Int
  | [] => here
  | q :: r => otE (q.2 + 1) r
def otA (here : Int) : RS → RS
  | [] => []
  | q :: r => if here < q.1 then (here, q.1 - 1) :: otA (q.2 + 1) r else otA (q.2 + 1) r
theorem ot_split : ∀ (r : RS) (here : Int), ot here r = otA here r ++ (if otE here r ≤ 96 then [(otE here r, 96)] else [])
  | [], here => rfl
  | q :: r, here => by
    unfold ot otA otE
    rw [ot_split r]
    by_cases h : here < q.1 <;> simp [h]
theorem ot_loop (r0 : Option D) (c : CF) : ∀ (r : RS) (acc : RS) (here : Int) (a b : Option D), acc.length + r.length < 9999 → ∃ a' b', forLoop (otB c) (r.map encP) [r0, some (encl acc), some (.int here), a, b] = .next [r0, some (encl (acc ++ otA here r)), some (.int (otE here r)), a', b']
  | [], acc, here, a, b, _ => ⟨a, b, by simp [forLoop, otA, otE]⟩
  | q :: r, acc, here, a, b, h => by
    simp only [List.length_cons] at h
    rw [List.map_cons, forLoop, ot_step r0 a b q acc here c (by omega)]
    unfold otA otE
    by_cases e : here < q.1
    · simp only [e, if_true]
      have := ot_loop r0 c r (acc ++ [(here, q.1 - 1)]) (q.2 + 1) (some (.int q.1)) (some (.int q.2)) (by simp; omega)
      simpa using this
    · simp only [e, if_false]
      exact ot_loop r0 c r acc (q.2 + 1) _ _ (by omega)
theorem otA_len : ∀ (r : RS) (here : Int), (otA here r).length ≤ r.length
  | [], _ => Nat.le_refl _
  | q :: r, here => by
    have := otA_len r (q.2 + 1)
    unfold otA
    by_cases h : here < q.1 <;> simp [h] <;> omega
theorem l_other {n : Nat} (hn : 1 ≤ n) {rs : RS} (h : Canon 0 rs) : evF fs WFU n 10 [enc rs] = .ok (enc (oth rs)) [] := by
  obtain ⟨n, rfl⟩ := Nat.exists_eq_add_of_le' hn
  rw [cf_eq (g := f_other_signs) rfl rfl]
  have hlen := Canon.len h
  obtain ⟨a, b, key⟩ := ot_loop (some (enc rs)) (evF fs WFU n) rs [] 0 none none (by simp; omega)
  have key2 : forLoop (fun x ρ => match bindT (.tup [.name 3, .name 4]) x ρ with
      | some ρ => evSs (evF fs WFU n) WFU otS ρ
      | none => .stuck) (rs.map encP) [some (enc rs), some (.lst []), some (.int 0), none, none] = .next [some (enc rs), some (encl (otA 0 rs)), some (.int (otE 0 rs)), a, b] := key
  have hit : itemsD (enc rs) = some (rs.map encP) := rfl
  have hfo : evS (evF fs WFU n) WFU (.for_ (.tup [(.name 3), (.name 4)]) (.bvar 0) otS) [some (enc rs), some (.lst []), some (.int 0), none, none] = .next [some (enc rs), some (encl (otA 0 rs)), some (.int (otE 0 rs)), a, b] := by
    rw [evS]
    have e1 : evE (evF fs WFU n) (.bvar 0) [some (enc rs), some (.lst []), some (.int 0), none, none] = .ok (enc rs) [some (enc rs), some (.lst []), some (.int 0), none, none] := by
      simp [evE, lift, gv]
    rw [e1]
    simp only [Out.toS, hit]
    exact key2
  have e0 : evS (evF fs WFU n) WFU (.par [1, 2] [(.lst []), (.con (.int 0))]) (startE 5 [enc rs]) = .next [some (enc rs), some (.lst []), some (.int 0), none, none] := by
    simp [evS, evE, evEs, Out.bind, Out.toS, putAll, startE, List.replicate]
  show finE [.bor] (evSs _ _ [_, .for_ _ _ otS, _, _] (startE 5 [enc rs])) = _
  rw [evSs, e0]
  simp only [SOut.then]
  rw [evSs, hfo]
  have ht : ∀ xs : RS, opB .tuple [encl xs] = some (enc xs) := fun _ => rfl
  have hle : opCmp .le (.int (otE 0 rs)) g_LAST = some (decide (otE 0 rs ≤ 96)) := rfl
  have hsp : oth rs = otA 0 rs ++ (if otE 0 rs ≤ 96 then [(otE 0 rs, 96)] else []) := ot_split rs 0
  have hA := otA_len rs 0
  by_cases e : otE 0 rs ≤ 96
  · have hd : decide (otE 0 rs ≤ 96) = true := decide_eq_true e
    have hl2 : ((otA 0 rs).map encP).length < LIM := by show _ < 16777216; simp; omega
    have he : encl (otA 0 rs) = .lst ((otA 0 rs).map encP) := rfl
    have he2 : (.lst ((otA 0 rs).map encP ++ [.tup [.int (otE 0 rs), g_LAST]]) : D) = encl (oth rs) := by
      rw [hsp]; simp [e, encl, encP, g_LAST]
    simp [SOut.then, evSs, evS, testE, evE, evEs, Out.bind, Out.toS, lift, gv, ht, finE, outsOf, hle, hd, truthD]
    rw [he]
    simp only [hl2, if_true]
    simp [lift, gv, he2, ht]
  · have hd : decide (otE 0 rs ≤ 96) = false := decide_eq_false e
    have hsp : oth rs = otA 0 rs := by rw [hsp]; simp [e]
    simp [SOut.then, evSs, evS, testE, evE, evEs, Out.bind, Out.toS, lift, gv, ht, finE, outsOf, hle, hd, truthD, hsp]
theorem l_both {n : Nat} (hn : 3 ≤ n) {xs ys : RS} (hx : Canon 0 xs) (hy : Canon 0 ys) : evF fs WFU n 11 [enc xs, enc ys] = .ok (enc (bo xs ys)) [] := by
  obtain ⟨n, rfl⟩ := Nat.exists_eq_add_of_le' (show 1 ≤ n by omega)
  rw [cf_eq (g := f_both_signs) rfl rfl]
  have h1 := l_other (n := n) (by omega) hx
  have h2 := l_other (n := n) (by omega) hy
  have h3 := l_union (n := n) (by omega) (oth_ok hx).1 (oth_ok hy).1
  have h4 := l_other (n := n) (by omega) (un_ok (oth_ok hx).1 (oth_ok hy).1).1
  simp [f_both_signs, startE, evSs, evS, evE, evEs, Out.bind, Out.toS, SOut.then, lift, gv, finE, outsOf, h1, h2, h3, h4, putIO, reread, bo]
theorem l_less {n : Nat} (hn : 4 ≤ n) {xs ys : RS} (hx : Canon 0 xs) (hy : Canon 0 ys) : evF fs WFU n 12 [enc xs, enc ys] = .ok (enc (le xs ys)) [] := by
  obtain ⟨n, rfl⟩ := Nat.exists_eq_add_of_le' (show 1 ≤ n by omega)
  rw [cf_eq (g := f_less_signs) rfl rfl]
  have h2 := l_other (n := n) (by omega) hy
  have h3 := l_both (n := n) (by omega) hx (oth_ok hy).1
  simp [f_less_signs, startE, evSs, evS, evE, evEs, Out.bind, Out.toS, SOut.then, lift, gv, finE, outsOf, h2, h3, putIO, reread, le]
end K01
end -- K01E3

section -- K01E4
set_option Elab.async false
set_option linter.all false
set_option maxRecDepth 100000
set_option maxHeartbeats 4000000
namespace K01
open Ev K01M
theorem loop_map {α : Type} {step : D → Env → Out (Option D)} {ρ : Env} {g : α → D} {f : α → Option D} : ∀ {xs : List α} {acc : List D}, (∀ x ∈ xs, step (g x) ρ = .ok (f x) ρ) → compLoop step (xs.map g) acc ρ = .ok (acc ++ xs.filterMap f) ρ
  | [], acc, _ => by simp [compLoop]
  | x :: xs, acc, h => by
    rw [List.map_cons]
    unfold compLoop
    rw [h x List.mem_cons_self]
    cases e : f x with
    | none => simp only []; rw [loop_map fun y hy => h y (List.mem_cons_of_mem _ hy)]; simp [List.filterMap_cons, e]
    | some d => simp only []; rw [loop_map fun y hy => h y (List.mem_cons_of_mem _ hy)]; simp [List.filterMap_cons, e]
def stepC (c : CF) (elt : E) (t : T) (ifs : List E) (own : List Nat) : D → Env → Out (Option D) := fun x ρ => match bindT t x ρ with
        | none => .stuck
        | some ρ => match evAll c ifs ρ with
          | .ok true ρ => match evE c elt ρ with
            | .ok d ρ => .ok (some d) (wipeE own ρ)
            | _ => .stuck
          | .ok false ρ => .ok none (wipeE own ρ)
          | _ => .stuck
theorem comp_map {α : Type} {c : CF} {elt it : E} {t : T} {ifs : List E} {own : List Nat} {ρ ρ0 : Env} {x : D} {g : α → D} {f : α → Option D} {xs : List α}
    (hi : evE c it ρ = .ok x ρ0) (hx : itemsD x = some (xs.map g)) (h : ∀ y ∈ xs, stepC c elt t ifs own (g y) (wipeE own ρ0) = .ok (f y) (wipeE own ρ0)) :
    evE c (.comp elt t it ifs own) ρ = .ok (.lst (xs.filterMap f)) (restore own ρ0 (wipeE own ρ0)) := by
  rw [evE, hi]
  simp only [Out.bind, hx]
  have : compLoop (stepC c elt t ifs own) (xs.map g) [] (wipeE own ρ0) = .ok ([] ++ xs.filterMap f) (wipeE own ρ0) := loop_map h
  show (match compLoop (stepC c elt t ifs own) (xs.map g) [] (wipeE own ρ0) with
    | .ok ds ρ => Out.ok (D.lst ds) (restore own ρ0 ρ)
    | _ => .stuck) = _
  rw [this]
  rfl
theorem le_int (a b : Int) : opCmp .le (.int a) (.int b) = some (decide (a ≤ b)) := rfl
theorem ge_int (a b : Int) : opCmp .ge (.int a) (.int b) = some (decide (b ≤ a)) := rfl
theorem lt_int (a b : Int) : opCmp .lt (.int a) (.int b) = some (decide (a < b)) := by simp [opCmp, opLt, okLt, depthD, ltD]
theorem fm_filter {α β : Type} (p : α → Bool) (g : α → β) : ∀ xs : List α, xs.filterMap (fun x => if p x = true then some (g x) else none) = (xs.filter p).map g
  | [] => rfl
  | x :: xs => by
    rw [List.filterMap_cons, List.filter_cons, fm_filter p g xs]
    by_cases h : p x = true <;> simp [h]
theorem fm_some {α β : Type} (g : α → β) : ∀ xs : List α, xs.filterMap (fun x => some (g x)) = xs.map g
  | [] => rfl
  | x :: xs => by rw [List.filterMap_cons, fm_some g xs]; rfl
/-! ### counts, ranges -/
def cntD : D → Bool
  | .int a => decide (0 ≤ a)
  | _ => false
theorem l_is_count {n : Nat} (hn : 1 ≤ n) (d : D) (h : plainD d = true) : evF fs WFU n 0 [d] = .ok (.bl (cntD d)) [] := by
  obtain ⟨n, rfl⟩ := Nat.exists_eq_add_of_le' hn
  rw [cf_eq (g := f_is_count) rfl rfl]
  cases d <;> rfl
def rngP (p : Int × Int) : Bool := decide (0 ≤ p.1) && decide (0 ≤ p.2) && decide (p.1 ≤ p.2) && decide (p.2 ≤ 96)
theorem ne_int (a b : Int) : opCmp .ne (.int a) (.int b) = some (!decide (a = b)) := by simp [opCmp, opEq, okEq, plainD, depthD, eqD_int]
theorem l_is_range {n : Nat} (hn : 2 ≤ n) (p : Int × Int) : evF fs WFU n 1 [encP p] = .ok (.bl (rngP p)) [] := by
  obtain ⟨n, rfl⟩ := Nat.exists_eq_add_of_le' (show 1 ≤ n by omega)
  rw [cf_eq (g := f_is_range) rfl rfl]
  have h1 := l_is_count (n := n) (by omega) (.int p.1) rfl
  have h2 := l_is_count (n := n) (by omega) (.int p.2) rfl
  have hl : lenD (encP p) = some 2 := rfl
  have hx : opCmp .ne (.int 2) (.int 2) = some false := by rw [ne_int]; rfl
  have ht : isTy (encP p) .tuple = some true := rfl
  unfold rngP
  by_cases c1 : 0 ≤ p.1 <;> by_cases c2 : 0 ≤ p.2 <;> by_cases c3 : p.1 ≤ p.2 <;> by_cases c4 : p.2 ≤ 96 <;>
    simp [f_is_range, startE, evSs, evS, testE, evE, evEs, evOr, Out.bind, Out.toS, SOut.then, lift, gv, finE, outsOf, ht, truthD, le_int, cntD, h1, h2, sub0, sub1, opB, hl, hx, reread, putIO, g_LAST, c1, c2, c3, c4]
theorem In.rng {p : Int × Int} (h : In p) : rngP p = true := by
  obtain ⟨h1, h2, h3⟩ := h
  have : 0 ≤ p.2 := by omega
  simp [rngP, h1, h2, h3, this]
theorem allB_true {α : Type} (f : α → Bool) : ∀ xs : List α, allB (xs.map fun x => D.bl (f x)) = some (xs.all f)
  | [] => rfl
  | x :: xs => by rw [List.map_cons, allB, allB_true f xs]; rfl
theorem anyB_true {α : Type} (f : α → Bool) : ∀ xs : List α, anyB (xs.map fun x => D.bl (f x)) = some (xs.any f)
  | [] => rfl
  | x :: xs => by rw [List.map_cons, anyB, anyB_true f xs]; rfl
/-! ### codes -/
theorem ne_ones : ∀ xs : List D, (∀ x ∈ xs, x = .int 1) → opCmp .ne (.lst xs) (.lst []) = some (!xs.isEmpty)
  | xs, h => by
    have hp : plainL xs = true := by
      induction xs with
      | nil => rfl
      | cons y ys ih => rw [plainL, h y List.mem_cons_self, ih fun x hx => h x (List.mem_cons_of_mem _ hx)]; rfl
    show (opEq _ _).map (!·) = _
    unfold opEq okEq
    have hd : decide (min (depthD (.lst xs)) (depthD (.lst [])) ≤ 100) = true := decide_eq_true (by simp [depthD, depthL])
    rw [hd]
    simp only [plainD, hp, plainL, Bool.and_self, if_true]
    cases xs <;> simp [eqD, eqL]
def inR (k : Nat) (p : Int × Int) : Option D := if (decide (p.1 ≤ (k : Int)) && decide ((k : Int) ≤ p.2)) = true then some (.int 1) else none
theorem l_codes {n : Nat} (hn : 1 ≤ n) (rs : RS) (d : D) (hd : itemsD d = some (rs.map encP)) : evF fs WFU n 22 [d] = .ok (cI (cod rs)) [] := by
  obtain ⟨n, rfl⟩ := Nat.exists_eq_add_of_le' hn
  rw [cf_eq (g := f__law_codes) rfl rfl]
  have hr : opRng [.int 97] = some (.lst ((List.range 97).map iN)) := by
    rw [← rangeD_nat]; simp [opRng, P62, LIM]
  have inner : ∀ (k : Nat), evE (evF fs WFU n) (.comp (.con (.int 1)) (.tup [(.name 2), (.name 3)]) (.bvar 0) [(.chain .le .le (.var 2) (.var 1) (.var 3))] [2, 3]) [some d, some (iN k), none, none]
      = .ok (.lst (rs.filterMap (inR k))) [some d, some (iN k), none, none] := fun k => by
    refine (comp_map (ρ0 := [some d, some (iN k), none, none]) (f := inR k) (by simp [evE, lift, gv]) hd fun p _ => ?_).trans ?_
    · by_cases c1 : p.1 ≤ (k : Int) <;> by_cases c2 : (k : Int) ≤ p.2 <;>
        simp [stepC, bindT, bindTs, encP, evAll, evE, Out.bind, lift, gv, iN, le_int, truthD, wipeE, c1, c2, inR]
    · simp [restore, wipeE, gv]
  have fm : ∀ k : Nat, (!(rs.filterMap (inR k)).isEmpty) = memR (k : Int) rs := fun k => by
    clear hd hr inner
    induction rs with
    | nil => rfl
    | cons p r ih =>
      rw [List.filterMap_cons, memR]
      unfold inR
      cases e : (decide (p.1 ≤ (k : Int)) && decide ((k : Int) ≤ p.2)) with
      | true => rfl
      | false => simp only [Bool.false_eq_true, if_false, Bool.false_or]; exact ih
  have hne : ∀ k : Nat, opCmp .ne (.lst (rs.filterMap (inR k))) (.lst []) = some (memR (k : Int) rs) := fun k => by
    rw [ne_ones _ fun x hx => ?_, fm k]
    obtain ⟨p, _, h⟩ := List.mem_filterMap.mp hx
    unfold inR at h
    split at h
    · injection h with h; exact h.symm
    · cases h
  have outer : ∀ ic : E, (∀ (k : Nat), evE (evF fs WFU n) ic [some d, some (iN k), none, none] = .ok (.lst (rs.filterMap (inR k))) [some d, some (iN k), none, none]) → evE (evF fs WFU n) (.comp (.var 1) (.name 1) (.rng [(.con (.int 97))]) [(.cmp .ne ic (.lst []))] [1]) [some d, none, none, none] = .ok (cI (cod rs)) [some d, none, none, none] := fun ic inner => by
    refine (comp_map (ρ0 := [some d, none, none, none]) (g := iN) (xs := List.range 97) (f := fun k => if memR (k : Int) rs = true then some (iN k) else none) (x := .lst ((List.range 97).map iN)) (by simp [evE, evEs, Out.bind, lift, hr]) rfl fun k _ => ?_).trans ?_
    · have := inner k
      cases e : memR (k : Int) rs <;>
        simp [stepC, bindT, bindTs, evAll, evE, evEs, Out.bind, lift, gv, truthD, wipeE, this, hne, e]
    · rw [fm_filter]; simp [restore, wipeE, gv, cI, cod]
  simp only [f__law_codes, startE, List.map, List.replicate, List.length, List.append, evSs, evS]
  have hst : ([some d] ++ List.replicate (4 - ([] : List D).length.succ) none : Env) = [some d, none, none, none] := rfl
  show finE [.bor] (SOut.then (Out.toS (evE _ _ [some d, none, none, none]) _) _) = _
  rw [outer _ inner]
  rfl
end K01
end -- K01E4

section -- K01E5
set_option Elab.async false
set_option linter.all false
set_option maxRecDepth 100000
set_option maxHeartbeats 4000000
namespace K01
open Ev K01M
theorem Canon_gap : ∀ {rs : RS} {b : Int} {k : Nat} {p q : Int × Int}, Canon b rs → rs[k]? = some p → rs[k + 1]? = some q → p.2 + 1 < q.1
  | [], _, _, _, _, _, h, _ => by simp at h
  | [x], _, k, p, q, _, _, h => by simp at h
  | x :: y :: r, b, 0, p, q, h, h1, h2 => by
    simp at h1 h2
    obtain ⟨_, _, _, h4, _⟩ := h
    subst h1; subst h2; omega
  | x :: y :: r, b, k + 1, p, q, h, h1, h2 => by
    obtain ⟨_, _, _, h4⟩ := h
    exact Canon_gap (k := k) h4 (by simpa using h1) (by simpa using h2)
theorem sub_enc {rs : RS} {k : Nat} {p : Int × Int} (h : rs[k]? = some p) : opSub (enc rs) (.int (k : Int)) = some (encP p) := by
  have hl : k < rs.length := (List.getElem?_eq_some_iff.mp h).1
  unfold opSub enc
  simp only [atD, ixI, List.length_map]
  rw [if_pos (by omega), if_pos (by omega)]
  simp [h]
theorem allB_const {α : Type} (xs : List α) : allB (xs.map fun _ => D.bl true) = some true := by
  rw [allB_true (fun _ => true) xs]; simp
theorem comp_all {α : Type} {c : CF} {elt it : E} {t : T} {own : List Nat} {ρ ρ0 : Env} {x : D} {g : α → D} {f : α → Bool} {xs : List α}
    (hi : evE c it ρ = .ok x ρ0) (hx : itemsD x = some (xs.map g)) (h : ∀ y ∈ xs, stepC c elt t [] own (g y) (wipeE own ρ0) = .ok (some (.bl (f y))) (wipeE own ρ0)) :
    evE c (.bi .all [.comp elt t it [] own]) ρ = .ok (.bl (xs.all f)) (restore own ρ0 (wipeE own ρ0)) := by
  have := comp_map (f := fun y => some (D.bl (f y))) hi hx h
  rw [fm_some] at this
  generalize E.comp elt t it [] own = ic at this
  simp [evE, evEs, Out.bind, this, opB, allB_true, lift]
theorem comp_any {α : Type} {c : CF} {elt it : E} {t : T} {own : List Nat} {ρ ρ0 : Env} {x : D} {g : α → D} {f : α → Bool} {xs : List α}
    (hi : evE c it ρ = .ok x ρ0) (hx : itemsD x = some (xs.map g)) (h : ∀ y ∈ xs, stepC c elt t [] own (g y) (wipeE own ρ0) = .ok (some (.bl (f y))) (wipeE own ρ0)) :
    evE c (.bi .any [.comp elt t it [] own]) ρ = .ok (.bl (xs.any f)) (restore own ρ0 (wipeE own ρ0)) := by
  have := comp_map (f := fun y => some (D.bl (f y))) hi hx h
  rw [fm_some] at this
  generalize E.comp elt t it [] own = ic at this
  simp [evE, evEs, Out.bind, this, opB, anyB_true, lift]
theorem sg_a1 {n : Nat} (hn : 2 ≤ n) {rs : RS} (h : Canon 0 rs) : evE (evF fs WFU n) (.bi .all [(.comp (.call 1 [.bor] [(.var 2)]) (.name 2) (.bvar 0) [] [2])]) [some (enc rs), none, none] = .ok (.bl true) [some (enc rs), none, none] := by
  refine (comp_all (ρ0 := [some (enc rs), none, none]) (g := encP) (xs := rs) (f := fun _ => true) (x := enc rs) (by simp [evE, lift, gv]) rfl fun p hp => ?_).trans ?_
  · have := l_is_range (n := n) (by omega) p
    rw [K01.In.rng (h.inn (Int.le_refl 0) p hp)] at this
    simp [stepC, bindT, evAll, evE, evEs, Out.bind, lift, gv, wipeE, reread, putIO, this]
  · simp [restore, wipeE, gv]
theorem rng1 {m : Nat} (hm : m ≤ 100) : opRng [.int 1, .int (m : Int)] = some (.lst (rangeD 1 m)) := by
  have hL : ((LIM : Nat) : Int) = 16777216 := rfl
  have : -P62 ≤ (1 : Int) ∧ (1 : Int) < P62 ∧ -P62 ≤ (m : Int) ∧ (m : Int) < P62 ∧ (m : Int) - 1 ≤ (LIM : Nat) := by
    rw [hL]; unfold P62; omega
  unfold opRng
  simp only []
  rw [if_pos this]
theorem sg_st {c : CF} {rs : RS} {k : Nat} (l2 : k + 1 < rs.length) (h : Canon 0 rs) : stepC c (.cmp .lt (.bin .add (.sub (.sub (.bvar 0) (.bin .sub (.var 1) (.con (.int 1)))) (.con (.int 1))) (.con (.int 1))) (.sub (.sub (.bvar 0) (.var 1)) (.con (.int 0)))) (.name 1) [] [1] (.int ((k + 1 : Nat) : Int)) [some (enc rs), none, none] = .ok (some (.bl true)) [some (enc rs), none, none] := by
  have l1 : k < rs.length := by omega
  have g1 : rs[k]? = some rs[k] := List.getElem?_eq_getElem l1
  have g2 : rs[k + 1]? = some rs[k + 1] := List.getElem?_eq_getElem l2
  have gap := Canon_gap h g1 g2
  have s1 := sub_enc g1
  have s2 := sub_enc g2
  have hb : opBin .sub (.int ((k + 1 : Nat) : Int)) (.int 1) = some (.int (k : Int)) := by
    have e3 : ((k + 1 : Nat) : Int) - 1 = (k : Int) := by omega
    simp only [opBin, e3]
  have hb2 : opBin .add (.int rs[k].2) (.int 1) = some (.int (rs[k].2 + 1)) := rfl
  generalize ((k + 1 : Nat) : Int) = kk at hb s2 ⊢
  generalize (k : Int) = k0 at hb s1 ⊢
  simp [stepC, bindT, evAll, evE, evEs, Out.bind, lift, gv, wipeE, hb, s1, s2, sub0, sub1, hb2, lt_int, gap]
theorem rngD1 (m : Nat) : itemsD (.lst (rangeD 1 m)) = some ((List.range (m - 1)).map fun k : Nat => D.int (1 + (k : Int))) := by
  unfold rangeD itemsD
  have : ((m : Int) - 1).toNat = m - 1 := by omega
  rw [this]
theorem e_rng {c : CF} {es : List E} {ρ ρ' : Env} {xs : List D} {d : D} (h : evEs c es ρ = .ok xs ρ') (h2 : opRng xs = some d) : evE c (.rng es) ρ = .ok d ρ' := by
  rw [evE, h]
  simp only [Out.bind]
  rw [h2]; rfl
theorem sg_a2 {n : Nat} {rs : RS} (h : Canon 0 rs) : evE (evF fs WFU n) (.bi .all [(.comp (.cmp .lt (.bin .add (.sub (.sub (.bvar 0) (.bin .sub (.var 1) (.con (.int 1)))) (.con (.int 1))) (.con (.int 1))) (.sub (.sub (.bvar 0) (.var 1)) (.con (.int 0)))) (.name 1) (.rng [(.con (.int 1)), (.bi .len [(.bvar 0)])]) [] [1])]) [some (enc rs), none, none] = .ok (.bl true) [some (enc rs), none, none] := by
  have hlen := Canon.len h
  have hr := rng1 (m := rs.length) (by omega)
  have hle : lenD (enc rs) = some rs.length := by simp [enc, lenD]
  refine (comp_all (ρ0 := [some (enc rs), none, none]) (g := fun k : Nat => D.int (1 + (k : Int))) (xs := List.range (rs.length - 1)) (f := fun _ => true) (x := .lst (rangeD 1 rs.length)) ?_ (rngD1 _) fun k hk => ?_).trans ?_
  · exact e_rng (xs := [.int 1, .int (rs.length : Int)]) (by simp [evE, evEs, lift, gv, Out.bind, opB, hle]) hr
  · have hk := List.mem_range.mp hk
    have e2 : (1 + (k : Int)) = ((k + 1 : Nat) : Int) := by omega
    show stepC _ _ _ _ _ (.int (1 + (k : Int))) [some (enc rs), none, none] = _
    rw [e2]
    exact sg_st (by omega) h
  · simp [restore, wipeE, gv]
theorem is_signs_body {c : CF} {x1 x2 : E} {d : D} (ht : isTy d .tuple = some true) (a1 : evE c x1 [some d, none, none] = .ok (.bl true) [some d, none, none]) (a2 : evE c x2 [some d, none, none] = .ok (.bl true) [some d, none, none]) :
    finE [.bor] (evSs c WFU [(.ite (.orL [(.not_ (.isinst (.bvar 0) .tuple)), (.not_ x1)]) [(.ret (.con (.bl false)))] []), (.ret x2)] [some d, none, none]) = .ok (.bl true) [] := by
  simp [evSs, evS, testE, evE, evEs, evOr, Out.bind, Out.toS, SOut.then, lift, gv, finE, outsOf, ht, truthD, a1, a2]
theorem l_is_signs {n : Nat} (hn : 3 ≤ n) {rs : RS} (h : Canon 0 rs) : evF fs WFU n 2 [enc rs] = .ok (.bl true) [] := by
  obtain ⟨n, rfl⟩ := Nat.exists_eq_add_of_le' (show 1 ≤ n by omega)
  rw [cf_eq (g := f_is_signs) rfl rfl]
  exact is_signs_body rfl (sg_a1 (n := n) (by omega) h) (sg_a2 (n := n) h)
/-! ### signs -/
def SG : List Nat := match g_SIGNS with
  | .str s => s
  | _ => []
def sg (k : Nat) : Nat := SG.getD k 0
theorem g_SG : g_SIGNS = .str SG := rfl
theorem SG_len : SG.length = 97 := rfl
theorem find_sg : ∀ k, k < 97 → findS [sg k] SG 0 = some k := by decide +kernel
theorem SG_at {k : Nat} (h : k < 97) : SG[k]? = some (sg k) := by
  unfold sg
  rw [List.getD_eq_getElem?_getD, List.getElem?_eq_getElem (by rw [SG_len]; exact h)]; rfl
theorem l_number {n : Nat} (hn : 1 ≤ n) {k : Nat} (hk : k < 97) : evF fs WFU n 4 [.str [sg k]] = .ok (iN k) [] := by
  obtain ⟨n, rfl⟩ := Nat.exists_eq_add_of_le' hn
  rw [cf_eq (g := f_sign_number) rfl rfl]
  have : opM .find (.str SG) [.str [sg k]] = some (iN k) := by simp only [opM]; rw [find_sg k hk]; rfl
  simp [f_sign_number, g_SG, startE, evSs, evS, evE, evEs, Out.bind, Out.toS, SOut.then, lift, gv, finE, outsOf, recvOk, this]
theorem sub_SG {k : Nat} (hk : k < 97) : opSub (.str SG) (iN k) = some (.str [sg k]) := by
  simp only [opSub, iN, atD, ixI]
  have := SG_len
  rw [if_pos (by omega), if_pos (by omega)]
  simp [SG_at hk]
theorem l_sign_of {n : Nat} (hn : 1 ≤ n) {k : Nat} (hk : k < 97) : evF fs WFU n 5 [iN k] = .ok (.str [sg k]) [] := by
  obtain ⟨n, rfl⟩ := Nat.exists_eq_add_of_le' hn
  rw [cf_eq (g := f_sign_of) rfl rfl]
  simp [f_sign_of, g_SG, startE, evSs, evS, evE, evEs, Out.bind, Out.toS, SOut.then, lift, gv, finE, outsOf, sub_SG hk]
theorem l_signs {n : Nat} (hn : 1 ≤ n) : evF fs WFU n 20 [] = .ok (.str SG) [] := by
  obtain ⟨n, rfl⟩ := Nat.exists_eq_add_of_le' hn
  rw [cf_eq (g := f__law_signs) rfl rfl]
  simp [f__law_signs, g_SG, startE, evSs, evS, evE, evEs, Out.bind, Out.toS, SOut.then, lift, gv, finE, outsOf]
theorem l_every {n : Nat} (hn : 1 ≤ n) : evF fs WFU n 8 [] = .ok (enc [(0, 96)]) [] := by
  obtain ⟨n, rfl⟩ := Nat.exists_eq_add_of_le' hn
  rw [cf_eq (g := f_every_sign) rfl rfl]
  simp [f_every_sign, g_LAST, startE, evSs, evS, evE, evEs, Out.bind, Out.toS, SOut.then, lift, gv, finE, outsOf, enc, encP]
theorem memR_any (c : Int) : ∀ rs : RS, rs.any (fun p => decide (p.1 ≤ c) && decide (c ≤ p.2)) = memR c rs
  | [] => rfl
  | p :: r => by rw [List.any_cons, memR, memR_any c r]
theorem l_has {n : Nat} (hn : 2 ≤ n) (rs : RS) {k : Nat} (hk : k < 97) : evF fs WFU n 13 [enc rs, .str [sg k]] = .ok (.bl (memR (k : Int) rs)) [] := by
  obtain ⟨n, rfl⟩ := Nat.exists_eq_add_of_le' (show 1 ≤ n by omega)
  rw [cf_eq (g := f_has_sign) rfl rfl]
  have h1 := l_number (n := n) (by omega) hk
  have a1 : evE (evF fs WFU n) (.bi .any [(.comp (.chain .le .le (.var 3) (.var 2) (.var 4)) (.tup [(.name 3), (.name 4)]) (.bvar 0) [] [3, 4])]) [some (enc rs), some (.str [sg k]), some (iN k), none, none] = .ok (.bl (memR (k : Int) rs)) [some (enc rs), some (.str [sg k]), some (iN k), none, none] := by
    refine (comp_any (ρ0 := [some (enc rs), some (.str [sg k]), some (iN k), none, none]) (g := encP) (xs := rs) (f := fun p => decide (p.1 ≤ (k : Int)) && decide ((k : Int) ≤ p.2)) (x := enc rs) (by simp [evE, lift, gv]) rfl fun p hp => ?_).trans ?_
    · by_cases c1 : p.1 ≤ (k : Int) <;> by_cases c2 : (k : Int) ≤ p.2 <;>
        simp [stepC, bindT, bindTs, encP, evAll, evE, Out.bind, lift, gv, iN, le_int, truthD, wipeE, c1, c2]
    · rw [memR_any]; simp [restore, wipeE, gv]
  show finE [.bor, .bor] (evSs _ _ [_, .ret _] (startE 5 [enc rs, .str [sg k]])) = _
  generalize E.bi .any _ = x1 at a1 ⊢
  simp [startE, List.replicate, evSs, evS, testE, evE, evEs, evOr, Out.bind, Out.toS, SOut.then, lift, gv, finE, outsOf, reread, putIO, h1, bindT, a1]
theorem sumI_sumR : ∀ rs : RS, sumI (rs.map fun p => D.int (p.2 - p.1 + 1)) = some (sumR rs)
  | [] => rfl
  | p :: r => by rw [List.map_cons, sumI, sumI_sumR r]; rfl
theorem l_count {n : Nat} (hn : 1 ≤ n) (rs : RS) : evF fs WFU n 14 [enc rs] = .ok (.int (sumR rs)) [] := by
  obtain ⟨n, rfl⟩ := Nat.exists_eq_add_of_le' hn
  rw [cf_eq (g := f_sign_count) rfl rfl]
  have a1 : evE (evF fs WFU n) (.comp (.bin .add (.bin .sub (.var 2) (.var 1)) (.con (.int 1))) (.tup [(.name 1), (.name 2)]) (.bvar 0) [] [1, 2]) [some (enc rs), none, none] = .ok (.lst (rs.map fun p => D.int (p.2 - p.1 + 1))) [some (enc rs), none, none] := by
    refine (comp_map (ρ0 := [some (enc rs), none, none]) (g := encP) (xs := rs) (f := fun p => some (D.int (p.2 - p.1 + 1))) (x := enc rs) (by simp [evE, lift, gv]) rfl fun p hp => ?_).trans ?_
    · simp [stepC, bindT, bindTs, encP, evAll, evE, Out.bind, lift, gv, opBin, wipeE]
    · rw [fm_some]; simp [restore, wipeE, gv]
  show finE [.bor] (evSs _ _ [.ret (.bi .sum [_])] (startE 3 [enc rs])) = _
  generalize E.comp _ _ _ _ _ = x1 at a1 ⊢
  simp [startE, List.replicate, evSs, evS, evE, evEs, Out.bind, Out.toS, SOut.then, lift, gv, finE, outsOf, a1, opB, sumI_sumR]
end K01
end -- K01E5

section -- K01E6
set_option Elab.async false
set_option linter.all false
set_option maxRecDepth 100000
set_option maxHeartbeats 4000000
namespace K01
open Ev K01M
/-! ### _law_same: of a value with itself -/
mutual
def okS : D → Bool
  | .non => true
  | .bl _ => true
  | .int _ => true
  | .str _ => true
  | .tup xs => decide (xs.length ≤ 1000) && okSL xs
  | .lst xs => decide (xs.length ≤ 1000) && okSL xs
  | _ => false
def okSL : List D → Bool
  | [] => true
  | x :: xs => okS x && okSL xs
end
theorem okSL_mem : ∀ {xs : List D} {x : D}, okSL xs = true → x ∈ xs → okS x = true ∧ depthD x ≤ depthL xs
  | [], _, _, h => by simp at h
  | y :: ys, x, h, hm => by
    rw [okSL, Bool.and_eq_true] at h
    rw [depthL]
    rcases List.mem_cons.mp hm with e | hm
    · subst e; exact ⟨h.1, by omega⟩
    · obtain ⟨a, b⟩ := okSL_mem h.2 hm
      exact ⟨a, by omega⟩
theorem rng0 {m : Nat} (hm : m ≤ 10000) : opRng [.int (m : Int)] = some (.lst ((List.range m).map iN)) := by
  have hL : ((LIM : Nat) : Int) = 16777216 := rfl
  have : -P62 ≤ (m : Int) ∧ (m : Int) < P62 ∧ (m : Int) ≤ (LIM : Nat) := by
    rw [hL]; unfold P62; omega
  unfold opRng
  simp only []
  rw [if_pos this, rangeD_nat]
theorem same_tail {c : CF} {d : D} {xs : List D} (hl : lenD d = some xs.length) (hlen : xs.length ≤ 1000) (hs : ∀ k x, xs[k]? = some x → opSub d (iN k) = some x) (hc : ∀ x ∈ xs, c 19 [x, x] = .ok (.bl true) [])  :
    evE c (.comp (.con (.int 1)) (.name 2) (.rng [(.bi .len [(.bvar 1)])]) [(.not_ (.call 19 [.bor, .bor] [(.sub (.bvar 0) (.var 2)), (.sub (.bvar 1) (.var 2))]))] [2]) [some d, some d, none] = .ok (.lst []) [some d, some d, none] := by
  have hr := rng0 (m := xs.length) (by omega)
  refine (comp_map (ρ0 := [some d, some d, none]) (g := iN) (xs := List.range xs.length) (f := fun _ => none) (x := .lst ((List.range xs.length).map iN)) ?_ rfl fun k hk => ?_).trans ?_
  · exact e_rng (xs := [.int (xs.length : Int)]) (by simp [evE, evEs, lift, gv, Out.bind, opB, hl]) hr
  · have hk := List.mem_range.mp hk
    have g1 : xs[k]? = some xs[k] := List.getElem?_eq_getElem hk
    have s1 := hs k _ g1
    have c1 := hc xs[k] (List.getElem_mem hk)
    simp [stepC, bindT, evAll, evE, evEs, Out.bind, lift, gv, wipeE, s1, c1, reread, putIO, truthD]
  · have : (List.range xs.length).filterMap (fun _ => (none : Option D)) = [] := by simp
    rw [this]; simp [restore, wipeE, gv]
def sameS : List S := [(.ite (.cmp .is_ (.bvar 1) (.con .non)) [(.ret (.cmp .is_ (.bvar 0) (.con .non)))] []), (.ite (.isinst (.bvar 1) .bool) [(.ret (.andL [(.isinst (.bvar 0) .bool), (.cmp .eq (.bvar 0) (.bvar 1))]))] []), (.ite (.isinst (.bvar 1) .int) [(.ret (.andL [(.isinst (.bvar 0) .int), (.not_ (.isinst (.bvar 0) .bool)), (.cmp .eq (.bvar 0) (.bvar 1))]))] []), (.ite (.isinst (.bvar 1) .str) [(.ret (.andL [(.isinst (.bvar 0) .str), (.cmp .eq (.bvar 0) (.bvar 1))]))] []), (.ite (.orL [(.andL [(.isinst (.bvar 1) .list), (.not_ (.isinst (.bvar 0) .list))]), (.andL [(.isinst (.bvar 1) .tuple), (.not_ (.isinst (.bvar 0) .tuple))])]) [(.ret (.con (.bl false)))] [])]
theorem tk : ((TyK.int == TyK.bool) = false) ∧ ((TyK.bool == TyK.int) = false) ∧ ((TyK.str == TyK.bool) = false) ∧ ((TyK.str == TyK.int) = false) ∧ ((TyK.tuple == TyK.bool) = false) ∧ ((TyK.tuple == TyK.int) = false) ∧ ((TyK.tuple == TyK.str) = false) ∧ ((TyK.tuple == TyK.list) = false) ∧ ((TyK.list == TyK.bool) = false) ∧ ((TyK.list == TyK.int) = false) ∧ ((TyK.list == TyK.str) = false) ∧ ((TyK.list == TyK.tuple) = false) := ⟨rfl, rfl, rfl, rfl, rfl, rfl, rfl, rfl, rfl, rfl, rfl, rfl⟩
theorem same_body {c : CF} {d : D} {xs : List D} {x1 : E} (hd : d = .tup xs ∨ d = .lst xs) (hl : lenD d = some xs.length) (h1 : evE c x1 [some d, some d, none] = .ok (.lst []) [some d, some d, none]) :
    finE [.bor, .bor] (evSs c WFU [(.ite (.cmp .is_ (.bvar 1) (.con .non)) [(.ret (.cmp .is_ (.bvar 0) (.con .non)))] []), (.ite (.isinst (.bvar 1) .bool) [(.ret (.andL [(.isinst (.bvar 0) .bool), (.cmp .eq (.bvar 0) (.bvar 1))]))] []), (.ite (.isinst (.bvar 1) .int) [(.ret (.andL [(.isinst (.bvar 0) .int), (.not_ (.isinst (.bvar 0) .bool)), (.cmp .eq (.bvar 0) (.bvar 1))]))] []), (.ite (.isinst (.bvar 1) .str) [(.ret (.andL [(.isinst (.bvar 0) .str), (.cmp .eq (.bvar 0) (.bvar 1))]))] []), (.ite (.orL [(.andL [(.isinst (.bvar 1) .list), (.not_ (.isinst (.bvar 0) .list))]), (.andL [(.isinst (.bvar 1) .tuple), (.not_ (.isinst (.bvar 0) .tuple))])]) [(.ret (.con (.bl false)))] []), (.ret (.andL [(.cmp .eq (.bi .len [(.bvar 0)]) (.bi .len [(.bvar 1)])), (.cmp .eq x1 (.lst []))]))] [some d, some d, none]) = .ok (.bl true) [] := by
  have he : opCmp .eq (.lst []) (.lst []) = some true := rfl
  have he2 : opCmp .eq (.int (xs.length : Int)) (.int (xs.length : Int)) = some true := by simp [opCmp, opEq, okEq, plainD, depthD, eqD_int]
  have i1 : opCmp .is_ d .non = some false := by rcases hd with e | e <;> subst e <;> rfl
  have i2 : isTy d .bool = some false := by rcases hd with e | e <;> subst e <;> rfl
  have i3 : isTy d .int = some false := by rcases hd with e | e <;> subst e <;> rfl
  have i4 : isTy d .str = some false := by rcases hd with e | e <;> subst e <;> rfl
  rcases hd with e | e
  · have i5 : isTy d .list = some false := by subst e; rfl
    have i6 : isTy d .tuple = some true := by subst e; rfl
    simp [evSs, evS, testE, evE, evEs, evAnd, evOr, Out.bind, Out.toS, SOut.then, lift, gv, finE, outsOf, i1, i2, i3, i4, i5, i6, truthD, h1, opB, hl, he, he2]
  · have i5 : isTy d .list = some true := by subst e; rfl
    have i6 : isTy d .tuple = some false := by subst e; rfl
    simp [evSs, evS, testE, evE, evEs, evAnd, evOr, Out.bind, Out.toS, SOut.then, lift, gv, finE, outsOf, i1, i2, i3, i4, i5, i6, truthD, h1, opB, hl, he, he2]
theorem sub_at {xs : List D} {k : Nat} {x : D} (h : xs[k]? = some x) : opSub (.tup xs) (iN k) = some x ∧ opSub (.lst xs) (iN k) = some x := by
  have hl : k < xs.length := (List.getElem?_eq_some_iff.mp h).1
  unfold opSub iN
  simp only [atD, ixI]
  rw [if_pos (by omega), if_pos (by omega)]
  simp [h]
theorem l_same : ∀ {n : Nat} {d : D}, okS d = true → depthD d < n → evF fs WFU n 19 [d, d] = .ok (.bl true) []
  | 0, d, _, h => by omega
  | n + 1, d, hs, h => by
    rw [cf_eq (g := f__law_same) rfl rfl]
    cases d with
    | non => rfl
    | bl b => cases b <;> rfl
    | int i =>
      have he : opCmp .eq (.int i) (.int i) = some true := by simp [opCmp, opEq, okEq, plainD, depthD, eqD_int]
      have i1 : opCmp .is_ (.int i) .non = some false := rfl
      have i2 : isTy (.int i) .bool = some false := rfl
      have i3 : isTy (.int i) .int = some true := rfl
      simp [f__law_same, startE, List.replicate, evSs, evS, testE, evE, evEs, evAnd, evOr, Out.bind, Out.toS, SOut.then, lift, gv, finE, outsOf, i1, i2, i3, truthD, he]
    | str i =>
      have he : opCmp .eq (.str i) (.str i) = some true := by simp [opCmp, opEq, okEq, plainD, depthD, eqD]
      have i1 : opCmp .is_ (.str i) .non = some false := rfl
      have i2 : isTy (.str i) .bool = some false := rfl
      have i3 : isTy (.str i) .int = some false := rfl
      have i4 : isTy (.str i) .str = some true := rfl
      simp [f__law_same, startE, List.replicate, evSs, evS, testE, evE, evEs, evAnd, evOr, Out.bind, Out.toS, SOut.then, lift, gv, finE, outsOf, i1, i2, i3, i4, truthD, he]
    | tup xs =>
      rw [okS, Bool.and_eq_true] at hs
      rw [depthD] at h
      have hc : ∀ x ∈ xs, evF fs WFU n 19 [x, x] = .ok (.bl true) [] := fun x hx => l_same (okSL_mem hs.2 hx).1 (by have := (okSL_mem hs.2 hx).2; omega)
      exact same_body (.inl rfl) rfl (same_tail (d := .tup xs) rfl (of_decide_eq_true hs.1) (fun k x hk => (sub_at hk).1) hc)
    | lst xs =>
      rw [okS, Bool.and_eq_true] at hs
      rw [depthD] at h
      have hc : ∀ x ∈ xs, evF fs WFU n 19 [x, x] = .ok (.bl true) [] := fun x hx => l_same (okSL_mem hs.2 hx).1 (by have := (okSL_mem hs.2 hx).2; omega)
      exact same_body (.inr rfl) rfl (same_tail (d := .lst xs) rfl (of_decide_eq_true hs.1) (fun k x hk => (sub_at hk).2) hc)
    | _ => simp [okS] at hs
/-! ### the tape -/
def TP (sc : List Int) (p r s : Int) : D := .lst [.lst (sc.map .int), .int p, .int r, .int s]
/-- a tape of this script -/
def IsTape (sc : List Int) (t : D) : Prop := ∃ p r s, t = TP sc p r s ∧ 0 ≤ p
end K01
end -- K01E6

section -- K01E7
set_option Elab.async false
set_option linter.all false
set_option maxRecDepth 100000
set_option maxHeartbeats 4000000
namespace K01
open Ev K01M
theorem op_mul (a b : Int) (h1 : -B64 < b) (h2 : b < B64) : opBin .mul (.int a) (.int b) = some (.int (a * b)) := by
  simp only [opBin]; rw [if_pos (.inr ⟨h1, h2⟩)]
theorem op_mod (a b : Int) (h : b ≠ 0) : opBin .mod (.int a) (.int b) = some (.int (a.fmod b)) := by
  simp only [opBin]; rw [if_pos h]
theorem op_fdiv (a b : Int) (h : b ≠ 0) (h2 : b.natAbs < 1073741824) : opBin .fdiv (.int a) (.int b) = some (.int (a.fdiv b)) := by
  simp only [opBin]; rw [if_pos ⟨h, h2⟩]
theorem op_pow : opBin .pow (.int 10) (.int 18) = some (.int 1000000000000000000) := by
  simp only [opBin]; rw [if_pos (by decide)]; rfl
theorem tp0 (sc : List Int) (p r s : Int) : opSub (TP sc p r s) (.int 0) = some (.lst (sc.map .int)) := rfl
theorem tp1 (sc : List Int) (p r s : Int) : opSub (TP sc p r s) (.int 1) = some (.int p) := rfl
theorem tp2 (sc : List Int) (p r s : Int) : opSub (TP sc p r s) (.int 2) = some (.int r) := rfl
theorem tp3 (sc : List Int) (p r s : Int) : opSub (TP sc p r s) (.int 3) = some (.int s) := rfl
theorem ts1 (sc : List Int) (p r s x : Int) : opSet (TP sc p r s) (.int 1) (.int x) = some (TP sc x r s) := rfl
theorem ts2 (sc : List Int) (p r s x : Int) : opSet (TP sc p r s) (.int 2) (.int x) = some (TP sc p x s) := rfl
theorem ts3 (sc : List Int) (p r s x : Int) : opSet (TP sc p r s) (.int 3) (.int x) = some (TP sc p r x) := rfl
theorem s_setI {c : CF} {i : Nat} {k e : E} {ρ : Env} {y kd a b : D} (h1 : evE c e ρ = .ok y ρ) (h2 : evE c k ρ = .ok kd ρ) (ha : gv ρ i = some a) (hl : ∃ xs, a = .lst xs) (h3 : opSet a kd y = some b) : evS c WFU (.setI i k e) ρ = .next (ρ.set i (some b)) := by
  obtain ⟨xs, rfl⟩ := hl
  rw [evS, h1]
  simp only [Out.toS, ha, h2, h3]
theorem eq_int (a b : Int) : opCmp .eq (.int a) (.int b) = some (decide (a = b)) := by simp [opCmp, opEq, okEq, plainD, depthD, eqD_int]
theorem len_ints (sc : List Int) : opB .len [.lst (sc.map .int)] = some (.int (sc.length : Int)) := by simp [opB, lenD]
theorem nx_read {c : CF} (sc : List Int) (p r s : Int) (hp : 0 ≤ p) (m x : D) : ∃ p' cell, 0 ≤ p' ∧
    evS c WFU (.ite (.cmp .lt (.sub (.bvar 0) (.con (.int 1))) (.bi .len [(.sub (.bvar 0) (.con (.int 0)))])) [(.asg (.name 3) (.bi .abs [(.bi .int [(.sub (.sub (.bvar 0) (.con (.int 0))) (.sub (.bvar 0) (.con (.int 1))))])])), (.setI 0 (.con (.int 1)) (.bin .add (.sub (.bvar 0) (.con (.int 1))) (.con (.int 1))))] [])
      [some (TP sc p r s), some m, some x, some (.int 0)] = .next [some (TP sc p' r s), some m, some x, some (.int cell)] := by
  by_cases h : p < sc.length
  · have hl : p.toNat < sc.length := by omega
    have hat : opSub (.lst (sc.map .int)) (.int p) = some (.int sc[p.toNat]) := by
      unfold opSub
      simp only [atD, ixI, List.length_map]
      rw [if_pos hp, if_pos h]
      simp [hl]
    obtain ⟨ab, hab⟩ : ∃ ab, opB .abs [.int sc[p.toNat]] = some (.int ab) := ⟨_, rfl⟩
    have hin : opB .int [.int sc[p.toNat]] = some (.int sc[p.toNat]) := rfl
    have hset := s_setI (c := c) (i := 0) (k := .con (.int 1)) (e := .bin .add (.sub (.bvar 0) (.con (.int 1))) (.con (.int 1))) (ρ := [some (TP sc p r s), some m, some x, some (.int ab)]) (y := .int (p + 1)) (kd := .int 1) (a := TP sc p r s) (b := TP sc (p + 1) r s)
      (by simp [evE, Out.bind, lift, gv, tp1, opBin]) (by simp [evE]) rfl ⟨_, rfl⟩ (ts1 ..)
    refine ⟨p + 1, ab, by omega, ?_⟩
    generalize S.setI 0 (.con (.int 1)) _ = si at hset ⊢
    simp [evS, evSs, testE, evE, evEs, Out.bind, Out.toS, lift, gv, tp0, tp1, len_ints, lt_int, h, truthD, hat, hin, hab, bindT, SOut.then, hset]
  · refine ⟨p, 0, hp, ?_⟩
    simp [evS, evSs, testE, evE, evEs, Out.bind, Out.toS, lift, gv, tp0, tp1, len_ints, lt_int, h, truthD]
theorem l_next {n : Nat} (hn : 1 ≤ n) {sc : List Int} {t : D} {m : Int} (ht : IsTape sc t) (hm : 1 ≤ m) (hm2 : m ≤ 1000) : ∃ (x : Nat) (t' : D), evF fs WFU n 18 [t, .int m] = .ok (iN x) [t'] ∧ (x : Int) < m ∧ IsTape sc t' := by
  obtain ⟨n, rfl⟩ := Nat.exists_eq_add_of_le' hn
  rw [cf_eq (g := f__law_next) rfl rfl]
  obtain ⟨p, r, s, rfl, hp⟩ := ht
  generalize evF fs WFU n = c
  have fm : ∀ v : Int, ∃ x : Nat, v.fmod m = (x : Int) ∧ (x : Int) < m := fun v => by
    have h1 : 0 ≤ v.fmod m := Int.fmod_nonneg_of_pos v (by omega)
    have h2 : v.fmod m < m := Int.fmod_lt_of_pos v (by omega)
    exact ⟨(v.fmod m).toNat, by omega, by omega⟩
  have hfin : ∀ (p r s v : Int) (y : Option D), 0 ≤ p → ∃ (x : Nat) (t' : D), finE [.io, .bor] (evSs c WFU [(.setI 0 (.con (.int 2)) (.bin .fdiv (.var 2) (.bvar 1))), (.ret (.bin .mod (.bi .int [(.var 2)]) (.bvar 1)))] [some (TP sc p r s), some (.int m), some (.int v), y]) = .ok (iN x) [t'] ∧ (x : Int) < m ∧ IsTape sc t' := fun p r s v y hp => by
    obtain ⟨x, hx, hxm⟩ := fm v
    have hset := s_setI (c := c) (i := 0) (k := .con (.int 2)) (e := .bin .fdiv (.var 2) (.bvar 1)) (ρ := [some (TP sc p r s), some (.int m), some (.int v), y]) (y := .int (v.fdiv m)) (kd := .int 2) (a := TP sc p r s) (b := TP sc p (v.fdiv m) s)
      (by simp [evE, Out.bind, lift, gv, op_fdiv v m (by omega) (by omega)]) (by simp [evE]) rfl ⟨_, rfl⟩ (ts2 ..)
    refine ⟨x, TP sc p (v.fdiv m) s, ?_, hxm, p, _, _, rfl, hp⟩
    have hin : opB .int [.int v] = some (.int v) := rfl
    have hmo : opBin .mod (.int v) (.int m) = some (iN x) := by rw [op_mod _ _ (by omega), hx]; rfl
    generalize S.setI 0 (.con (.int 2)) _ = si at hset ⊢
    simp [evSs, hset, evS, evE, evEs, Out.bind, Out.toS, SOut.then, lift, gv, hin, hmo, finE, outsOf]
  show ∃ (x : Nat) (t' : D), finE [.io, .bor] (evSs c WFU [_, .ite (.cmp .eq (.var 2) (.con (.int 0))) [_, _, _, .ite _ [_, _] []] [], _, _] [some (TP sc p r s), some (.int m), none, none]) = .ok (iN x) [t'] ∧ (x : Int) < m ∧ IsTape sc t'
  have e0 : evS c WFU (.asg (.name 2) (.sub (.bvar 0) (.con (.int 2)))) [some (TP sc p r s), some (.int m), none, none] = .next [some (TP sc p r s), some (.int m), some (.int r), none] := by
    simp [evS, evE, Out.bind, Out.toS, lift, gv, tp2, bindT]
  rw [evSs, e0]
  simp only [SOut.then]
  rw [evSs]
  by_cases hr : r = 0
  · subst hr
    obtain ⟨p', cell, hp', hrd⟩ := nx_read (c := c) sc p 0 s hp (.int m) (.int 0)
    obtain ⟨s', hs'⟩ : ∃ s', s' = (s * 69621 + cell * 40692 + 17).fmod 2147483647 := ⟨_, rfl⟩
    have hset := s_setI (c := c) (i := 0) (k := .con (.int 3)) (e := (.bin .mod (.bi .int [(.bin .add (.bin .add (.bin .mul (.sub (.bvar 0) (.con (.int 3))) (.con (.int 69621))) (.bin .mul (.var 3) (.con (.int 40692)))) (.con (.int 17)))]) (.con (.int 2147483647)))) (ρ := [some (TP sc p' 0 s), some (.int m), some (.int cell), some (.int cell)]) (y := .int s') (kd := .int 3) (a := TP sc p' 0 s) (b := TP sc p' 0 s')
      (by
        have hin : ∀ v : Int, opB .int [.int v] = some (.int v) := fun _ => rfl
        have ha : ∀ a b : Int, opBin .add (.int a) (.int b) = some (.int (a + b)) := fun _ _ => rfl
        simp [evE, evEs, Out.bind, lift, gv, tp3, op_mul _ 69621 (by decide) (by decide), op_mul _ 40692 (by decide) (by decide), ha, hin, op_mod _ 2147483647 (by decide), hs']) (by simp [evE]) rfl ⟨_, rfl⟩ (ts3 ..)
    have ez : opCmp .eq (.int 0) (.int 0) = some true := by rw [eq_int]; rfl
    generalize S.ite (.cmp .lt (.sub (.bvar 0) (.con (.int 1))) (.bi .len [(.sub (.bvar 0) (.con (.int 0)))])) _ _ = si1 at hrd ⊢
    generalize S.setI 0 (.con (.int 3)) _ = si2 at hset ⊢
    by_cases hc : cell < 1000000000000000000
    · obtain ⟨x, hx, hxm⟩ := fm (((s'.fdiv 5) * 48271).fmod 2147483647)
      refine ⟨x, TP sc p' 0 s', ?_, hxm, p', _, _, rfl, hp'⟩
      have hin : ∀ v : Int, opB .int [.int v] = some (.int v) := fun _ => rfl
      have hmo : opBin .mod (.int (((s'.fdiv 5) * 48271).fmod 2147483647)) (.int m) = some (iN x) := by rw [op_mod _ _ (by omega), hx]; rfl
      simp [evS, evSs, testE, evE, evEs, Out.bind, Out.toS, SOut.then, lift, gv, ez, truthD, bindT, hrd, lt_int, op_pow, hc, hset, tp3, op_fdiv _ 5 (by decide) (by decide), hin, op_mul _ 48271 (by decide) (by decide), op_mod _ 2147483647 (by decide), hmo, finE, outsOf]
    · have e1 : evS c WFU (.ite (.cmp .eq (.var 2) (.con (.int 0))) [(.asg (.name 3) (.con (.int 0))), si1, (.asg (.name 2) (.var 3)), (.ite (.cmp .lt (.var 3) (.bin .pow (.con (.int 10)) (.con (.int 18)))) [si2, (.ret (.bin .mod (.bin .mod (.bi .int [(.bin .mul (.bi .int [(.bin .fdiv (.sub (.bvar 0) (.con (.int 3))) (.con (.int 5)))]) (.con (.int 48271)))]) (.con (.int 2147483647))) (.bvar 1)))] [])] []) [some (TP sc p 0 s), some (.int m), some (.int 0), none] = .next [some (TP sc p' 0 s), some (.int m), some (.int cell), some (.int cell)] := by
        simp [evS, evSs, testE, evE, evEs, Out.bind, Out.toS, SOut.then, lift, gv, ez, truthD, bindT, hrd, lt_int, op_pow, hc]
      rw [e1]
      exact hfin p' 0 s cell (some (.int cell)) hp'
  · have ez : opCmp .eq (.int r) (.int 0) = some false := by rw [eq_int]; simp [hr]
    have e1 : ∀ b, evS c WFU (.ite (.cmp .eq (.var 2) (.con (.int 0))) b []) [some (TP sc p r s), some (.int m), some (.int r), none] = .next [some (TP sc p r s), some (.int m), some (.int r), none] := fun b => by
      simp [evS, evSs, testE, evE, evEs, Out.bind, Out.toS, SOut.then, lift, gv, ez, truthD]
    rw [e1]
    exact hfin p r s r none hp
end K01
end -- K01E7

section -- K01E8
set_option Elab.async false
set_option linter.all false
set_option maxRecDepth 100000
set_option maxHeartbeats 4000000
namespace K01
open Ev K01M
theorem e_next {n : Nat} (hn : 1 ≤ n) {sc : List Int} {t : D} {m : Int} {em : E} {ρ ρ' : Env} {d0 : D} (h0 : gv ρ 0 = some d0) (hem : evE (evF fs WFU n) em ρ = .ok (.int m) ρ') (h1 : gv ρ' 0 = some t) (ht : IsTape sc t) (hm : 1 ≤ m) (hm2 : m ≤ 1000) : ∃ (x : Nat) (t' : D), evE (evF fs WFU n) (.call 18 [.io, .bor] [(.bvar 0), em]) ρ = .ok (iN x) (ρ'.set 0 (some t')) ∧ (x : Int) < m ∧ IsTape sc t' := by
  obtain ⟨x, t', h, hx, hT⟩ := l_next hn ht hm hm2
  refine ⟨x, t', ?_, hx, hT⟩
  rw [evE]
  have : evEs (evF fs WFU n) [.bvar 0, em] ρ = .ok [d0, .int m] ρ' := by
    simp [evEs, evE, Out.bind, lift, h0, hem]
  rw [this]
  have hre : ∀ e : E, (∀ i, e ≠ .bvar i) → reread [.bvar 0, e] [d0, .int m] ρ' = some [t, .int m] := fun e he => by
    cases e <;> simp_all [reread]
  have hre2 : reread [.bvar 0, em] [d0, .int m] ρ' = some [t, .int m] := by
    cases em with
    | bvar i =>
      have : ρ = ρ' ∧ gv ρ i = some (.int m) := by
        simp only [evE] at hem
        cases hg : gv ρ i with
        | none => rw [hg] at hem; simp [lift] at hem
        | some d => rw [hg] at hem; simp [lift] at hem; exact ⟨hem.2, by rw [hem.1]⟩
      simp [reread, h1, ← this.1, this.2]
      rw [← this.1] at h1
      simp [h1]
    | _ => exact hre _ (by simp)
  simp only [Out.bind]
  rw [hre2]
  simp only []
  rw [h]
  cases em <;> rfl
theorem min_bd (x z : Nat) (h : (x : Int) < 97) : (x : Int) ≤ (if (96 : Int) < (x : Int) + z then 96 else (x : Int) + z) ∧ (if (96 : Int) < (x : Int) + z then 96 else (x : Int) + z) ≤ 96 := by
  by_cases c : (96 : Int) < (x : Int) + z
  · rw [if_pos c]; omega
  · rw [if_neg c]; omega
def rgS : List S := [(.asg (.name 3) (.call 18 [.io, .bor] [(.bvar 0), (.con (.int 97))])), (.append 1 (.tup [(.var 3), (.bi .min2 [(.bin .add (.var 3) (.call 18 [.io, .bor] [(.bvar 0), (.bin .add (.con (.int 1)) (.call 18 [.io, .bor] [(.bvar 0), (.con (.int 30))]))])), (.con (.int 96))])]))]
def rgB (c : CF) : D → Env → SOut := fun x ρ => match bindT (.name 2) x ρ with
      | some ρ => evSs c WFU rgS ρ
      | none => .stuck
theorem rg_step {n : Nat} (hn : 1 ≤ n) {sc : List Int} {t : D} (ht : IsTape sc t) (acc : RS) (hl : acc.length < 1000) (k : D) (a b : Option D) : ∃ t' p a' b', rgB (evF fs WFU n) k [some t, some (encl acc), a, b] = .next [some t', some (encl (acc ++ [p])), a', b'] ∧ IsTape sc t' ∧ In p := by
  obtain ⟨x, t1, h1, hx, ht1⟩ := e_next (n := n) hn (m := 97) (em := .con (.int 97)) (ρ := [some t, some (encl acc), some k, b]) rfl rfl rfl ht (by omega) (by omega)
  obtain ⟨y, t2, h2, hy, ht2⟩ := e_next (n := n) hn (m := 30) (em := .con (.int 30)) (ρ := [some t1, some (encl acc), some k, some (iN x)]) rfl rfl rfl ht1 (by omega) (by omega)
  have hadd : opBin .add (.int 1) (iN y) = some (.int (1 + (y : Int))) := rfl
  obtain ⟨z, t3, h3, hz, ht3⟩ := e_next (n := n) hn (m := 1 + (y : Int)) (em := .bin .add (.con (.int 1)) (.call 18 [.io, .bor] [(.bvar 0), (.con (.int 30))])) (ρ := [some t1, some (encl acc), some k, some (iN x)]) (ρ' := [some t2, some (encl acc), some k, some (iN x)]) rfl (by
    rw [evE]
    have : evE (evF fs WFU n) (.con (.int 1)) [some t1, some (encl acc), some k, some (iN x)] = .ok (.int 1) [some t1, some (encl acc), some k, some (iN x)] := rfl
    rw [this]
    simp only [Out.bind]
    rw [h2]
    simp only [hadd]
    rfl) rfl ht2 (by omega) (by omega)
  have hmin : opB .min2 [.int ((x : Int) + z), .int 96] = some (.int (if (96 : Int) < (x : Int) + z then 96 else (x : Int) + z)) := rfl
  have hadd2 : opBin .add (iN x) (iN z) = some (.int ((x : Int) + z)) := rfl
  refine ⟨t3, ((x : Int), if (96 : Int) < (x : Int) + z then 96 else (x : Int) + z), some k, some (iN x), ?_, ht3, by show (0 : Int) ≤ x; omega, (min_bd x z hx).1, (min_bd x z hx).2⟩
  have hl2 : (acc.map encP).length < LIM := by show _ < 16777216; simp; omega
  have e1 : evS (evF fs WFU n) WFU (.asg (.name 3) (.call 18 [.io, .bor] [(.bvar 0), (.con (.int 97))])) [some t, some (encl acc), some k, b] = .next [some t1, some (encl acc), some k, some (iN x)] := by
    rw [evS, h1]; rfl
  show evSs _ _ [_, .append 1 (.tup [_, (.bi .min2 [(.bin .add (.var 3) _), _])])] [some t, some (encl acc), some k, b] = _
  rw [evSs, e1]
  simp only [SOut.then]
  generalize E.call 18 [.io, .bor] _ = ic at h3 ⊢
  have h3' : evE (evF fs WFU n) ic [some t1, some (encl acc), some k, some (iN x)] = .ok (iN z) [some t3, some (encl acc), some k, some (iN x)] := h3
  have he : encl acc = .lst (acc.map encP) := rfl
  have hsome : gv [some t1, some (encl acc), some k, some (iN x)] 1 = some (.lst (acc.map encP)) := rfl
  have hsome2 : gv [some t3, some (encl acc), some k, some (iN x)] 1 = some (.lst (acc.map encP)) := rfl
  have hv : gv [some t1, some (encl acc), some k, some (iN x)] 3 = some (iN x) := rfl
  rw [evSs, evS, hsome]
  simp only [evE, evEs, Out.bind, hv, lift, h3', hadd2, hmin, Out.toS, hsome2, hl2, if_true]
  simp [encl, encP, iN, SOut.then, evSs]
theorem rg_loop {n : Nat} (hn : 1 ≤ n) {sc : List Int} : ∀ (ks : List D) {t : D} (ht : IsTape sc t) (acc : RS) (hl : acc.length + ks.length < 1000) (hi : ∀ p ∈ acc, In p) (a b : Option D), ∃ t' rs a' b', forLoop (rgB (evF fs WFU n)) ks [some t, some (encl acc), a, b] = .next [some t', some (encl rs), a', b'] ∧ IsTape sc t' ∧ (∀ p ∈ rs, In p) ∧ rs.length = acc.length + ks.length
  | [], t, ht, acc, hl, hi, a, b => ⟨t, acc, a, b, rfl, ht, hi, rfl⟩
  | k :: ks, t, ht, acc, hl, hi, a, b => by
    simp only [List.length_cons] at hl
    obtain ⟨t1, p, a1, b1, h1, ht1, hp⟩ := rg_step hn ht acc (by omega) k a b
    obtain ⟨t2, rs, a2, b2, h2, ht2, hr, hlen⟩ := rg_loop hn ks ht1 (acc ++ [p]) (by simp; omega) (fun q hq => (List.mem_append.mp hq).elim (hi q) fun h => by rw [List.mem_singleton.mp h]; exact hp) a1 b1
    refine ⟨t2, rs, a2, b2, ?_, ht2, hr, by rw [hlen]; simp; omega⟩
    rw [forLoop, h1]
    exact h2
theorem l_ranges {n : Nat} (hn : 2 ≤ n) {sc : List Int} {t : D} (ht : IsTape sc t) : ∃ rs t', evF fs WFU n 21 [t] = .ok (encl rs) [t'] ∧ IsTape sc t' ∧ (∀ p ∈ rs, In p) ∧ rs.length ≤ 4 := by
  obtain ⟨n, rfl⟩ := Nat.exists_eq_add_of_le' (show 1 ≤ n by omega)
  rw [cf_eq (g := f__law_ranges) rfl rfl]
  obtain ⟨x, t1, h1, hx, ht1⟩ := e_next (n := n) (by omega) (m := 5) (em := .con (.int 5)) (ρ := [some t, some (.lst []), none, none]) rfl rfl rfl ht (by omega) (by omega)
  have h1' : evE (evF fs WFU n) (.call 18 [.io, .bor] [(.bvar 0), (.con (.int 5))]) [some t, some (.lst []), none, none] = .ok (.int (x : Int)) [some t1, some (.lst []), none, none] := h1
  have hr := rng0 (m := x) (by omega)
  obtain ⟨t2, rs, a2, b2, h2, ht2, hrs, hlen⟩ := rg_loop (n := n) (by omega) ((List.range x).map iN) ht1 [] (by simp; omega) (by simp) none none
  refine ⟨rs, t2, ?_, ht2, hrs, by rw [hlen]; simp; omega⟩
  have hrng : evE (evF fs WFU n) (.rng [(.call 18 [.io, .bor] [(.bvar 0), (.con (.int 5))])]) [some t, some (.lst []), none, none] = .ok (.lst ((List.range x).map iN)) [some t1, some (.lst []), none, none] := by
    refine e_rng (xs := [.int (x : Int)]) ?_ hr
    generalize E.call 18 [.io, .bor] _ = ic at h1' ⊢
    simp [evEs, h1', Out.bind]
  have hfor : evS (evF fs WFU n) WFU (.for_ (.name 2) (.rng [(.call 18 [.io, .bor] [(.bvar 0), (.con (.int 5))])]) rgS) [some t, some (.lst []), none, none] = .next [some t2, some (encl rs), a2, b2] := by
    rw [evS, hrng]
    exact h2
  have e0 : evS (evF fs WFU n) WFU (.asgO 1 (.lst [])) [some t, none, none, none] = .next [some t, some (.lst []), none, none] := rfl
  show finE [.io] (evSs _ _ [.asgO 1 (.lst []), .for_ (.name 2) _ rgS, .retM 1] [some t, none, none, none]) = _
  rw [evSs, e0]
  simp only [SOut.then]
  rw [evSs, hfor]
  rfl
end K01
end -- K01E8

section -- K01E9
set_option Elab.async false
set_option linter.all false
set_option maxRecDepth 100000
set_option maxHeartbeats 4000000
namespace K01
open Ev K01M
theorem hd_none {P : Nat → Bool} : ∀ {n l : Nat}, (∀ k, l ≤ k → k < l + n → P k = false) → ((List.range' l n).filter P).head? = none
  | 0, l, _ => rfl
  | n + 1, l, h => by
    rw [List.range'_succ, List.filter_cons, h l (Nat.le_refl _) (by omega)]
    exact hd_none fun k h1 h2 => h k (by omega) (by omega)
theorem hd_some {P : Nat → Bool} : ∀ {n l a : Nat}, l ≤ a → a < l + n → P a = true → (∀ k, l ≤ k → k < a → P k = false) → ((List.range' l n).filter P).head? = some a
  | 0, l, a, h1, h2, _, _ => by omega
  | n + 1, l, a, h1, h2, hp, h => by
    rw [List.range'_succ, List.filter_cons]
    by_cases e : l = a
    · subst e; rw [hp]; rfl
    · rw [h l (Nat.le_refl _) (by omega)]
      exact hd_some (by omega) (by omega) hp fun k h1 h2 => h k (by omega) h2
theorem mem_cod {rs : RS} {k : Nat} : k ∈ cod rs ↔ k < 97 ∧ memR (k : Int) rs = true := by
  unfold cod; rw [List.mem_filter, List.mem_range]
theorem seg_canon {l h : Nat} (h1 : l ≤ h) (h2 : h ≤ 96) : Canon 0 [((l : Int), (h : Int))] := ⟨by show (0 : Int) ≤ l; omega, by show (l : Int) ≤ h; omega, by show (h : Int) ≤ 96; omega, trivial⟩
theorem seg_head {rs : RS} (hr : Canon 0 rs) {l h : Nat} (h1 : l ≤ h) (h2 : h ≤ 96) : ((List.range' l (h + 1 - l)).filter fun k => decide (k ∈ cod rs)).head? = ((bo rs [((l : Int), (h : Int))]).head?).map (·.1.toNat) := by
  obtain ⟨bc, bm⟩ := bo_ok hr (seg_canon h1 h2)
  cases e : bo rs [((l : Int), (h : Int))] with
  | nil =>
    rw [e] at bm
    rw [hd_none]; rfl
    intro k k1 k2
    have := bm (k : Int)
    refine decide_eq_false fun hm => ?_
    obtain ⟨k3, k4⟩ := mem_cod.mp hm
    rw [k4] at this
    simp [memR] at this
    omega
  | cons q r =>
    rw [e] at bm bc
    obtain ⟨c1, c2, c3, c4⟩ := bc
    have hq := bm q.1
    have hself : memR q.1 (q :: r) = true := by unfold memR; simp [c2]
    rw [hself] at hq
    have hq := hq.symm
    rw [Bool.and_eq_true] at hq
    obtain ⟨q1, q2⟩ := hq
    simp [memR] at q2
    have hqq : ((q.1.toNat : Nat) : Int) = q.1 := by omega
    rw [hd_some (a := q.1.toNat) (by omega) (by omega)]
    · rfl
    · refine decide_eq_true (mem_cod.mpr ⟨by omega, by rw [hqq]; exact q1⟩)
    · intro k k1 k2
      refine decide_eq_false fun hm => ?_
      obtain ⟨k3, k4⟩ := mem_cod.mp hm
      have := bm (k : Int)
      rw [k4] at this
      have hlow : memR (k : Int) (q :: r) = false := mem_low (b := q.1) ⟨Int.le_refl _, c2, c3, c4⟩ (by omega)
      rw [hlow] at this
      simp [memR] at this
      omega
def ON1 : List Nat := List.range' 67 26 ++ List.range' 35 26 ++ List.range' 18 10
def ON2 : List Nat := List.range' 3 94 ++ [2, 1, 0]
def strD : Option Nat → D
  | some k => .str [sg k]
  | none => .non
def lsM (l : List Nat) : D := strD ((ON1.filter fun k => decide (k ∈ l)).head?.or (ON2.filter fun k => decide (k ∈ l)).head?)
def segs : List (Int × Int) := [(67, 92), (35, 60), (18, 27), (3, 96), (2, 2), (1, 1)]
def leastM (rs : RS) : D := strD (((segs.findSome? fun p => (bo rs [p]).head?).or rs.head?).map (·.1.toNat))
theorem leastM_eq {rs : RS} (hr : Canon 0 rs) : leastM rs = lsM (cod rs) := by
  have a1 := seg_head hr (l := 67) (h := 92) (by omega) (by omega)
  have a2 := seg_head hr (l := 35) (h := 60) (by omega) (by omega)
  have a3 := seg_head hr (l := 18) (h := 27) (by omega) (by omega)
  have a4 := seg_head hr (l := 3) (h := 96) (by omega) (by omega)
  have a5 := seg_head hr (l := 2) (h := 2) (by omega) (by omega)
  have a6 := seg_head hr (l := 1) (h := 1) (by omega) (by omega)
  have e2 : ON2 = List.range' 3 94 ++ List.range' 2 1 ++ List.range' 1 1 ++ List.range' 0 1 := rfl
  unfold lsM ON1
  rw [e2]
  simp only [List.filter_append, List.head?_append]
  unfold leastM
  congr 1
  have z : ∀ (f : Int × Int → Option (Int × Int)), segs.findSome? f = (f (67, 92)).or ((f (35, 60)).or ((f (18, 27)).or ((f (3, 96)).or ((f (2, 2)).or (f (1, 1)))))) := fun f => by
    unfold segs
    simp only [List.findSome?_cons, List.findSome?_nil]
    cases f (67, 92) <;> cases f (35, 60) <;> cases f (18, 27) <;> cases f (3, 96) <;> cases f (2, 2) <;> cases f (1, 1) <;> rfl
  rw [z]
  rw [show (26 : Nat) = 92 + 1 - 67 from rfl] at *
  rw [show (10 : Nat) = 27 + 1 - 18 from rfl, show (94 : Nat) = 96 + 1 - 3 from rfl]
  have a2' : ((List.range' 35 (92 + 1 - 67)).filter fun k => decide (k ∈ cod rs)).head? = ((bo rs [((35 : Int), (60 : Int))]).head?).map (·.1.toNat) := a2
  have a5' : ((List.range' 2 1).filter fun k => decide (k ∈ cod rs)).head? = ((bo rs [((2 : Int), (2 : Int))]).head?).map (·.1.toNat) := a5
  have a6' : ((List.range' 1 1).filter fun k => decide (k ∈ cod rs)).head? = ((bo rs [((1 : Int), (1 : Int))]).head?).map (·.1.toNat) := a6
  have a1' : ((List.range' 67 (92 + 1 - 67)).filter fun k => decide (k ∈ cod rs)).head? = ((bo rs [((67 : Int), (92 : Int))]).head?).map (·.1.toNat) := a1
  have a3' : ((List.range' 18 (27 + 1 - 18)).filter fun k => decide (k ∈ cod rs)).head? = ((bo rs [((18 : Int), (27 : Int))]).head?).map (·.1.toNat) := a3
  have a4' : ((List.range' 3 (96 + 1 - 3)).filter fun k => decide (k ∈ cod rs)).head? = ((bo rs [((3 : Int), (96 : Int))]).head?).map (·.1.toNat) := a4
  rw [a1', a2', a3', a4', a5', a6']
  have last : (bo rs [((3 : Int), (96 : Int))]).head? = none → (bo rs [((2 : Int), (2 : Int))]).head? = none → (bo rs [((1 : Int), (1 : Int))]).head? = none → rs.head?.map (·.1.toNat) = ((List.range' 0 1).filter fun k => decide (k ∈ cod rs)).head? := fun n1 n2 n3 => by
    cases rs with
    | nil => rfl
    | cons p r =>
      obtain ⟨c1, c2, c3, c4⟩ := hr
      have hr : Canon 0 (p :: r) := ⟨c1, c2, c3, c4⟩
      have hself : memR p.1 (p :: r) = true := by unfold memR; simp [c2]
      have nn : ∀ (l h : Nat), l ≤ h → h ≤ 96 → (bo (p :: r) [((l : Int), (h : Int))]).head? = none → ¬ ((l : Int) ≤ p.1 ∧ p.1 ≤ h) := fun l h h1 h2 hn hh => by
        have := (bo_ok hr (seg_canon h1 h2)).2 p.1
        rw [List.head?_eq_none_iff.mp hn, hself] at this
        simp [memR] at this
        omega
      have b1 := nn 3 96 (by omega) (by omega) n1
      have b2 := nn 2 2 (by omega) (by omega) n2
      have b3 := nn 1 1 (by omega) (by omega) n3
      have p0 : p.1 = 0 := by omega
      rw [hd_some (a := 0) (by omega) (by omega)]
      · simp [p0]
      · refine decide_eq_true (mem_cod.mpr ⟨by omega, ?_⟩)
        rw [p0] at hself; exact hself
      · intro k h1 h2; omega
  cases g1 : (bo rs [((67 : Int), (92 : Int))]).head? <;> cases g2 : (bo rs [((35 : Int), (60 : Int))]).head? <;> cases g3 : (bo rs [((18 : Int), (27 : Int))]).head? <;> cases g4 : (bo rs [((3 : Int), (96 : Int))]).head? <;> cases g5 : (bo rs [((2 : Int), (2 : Int))]).head? <;> cases g6 : (bo rs [((1 : Int), (1 : Int))]).head? <;> simp only [Option.map_some, Option.map_none, Option.some_or, Option.none_or]
  exact last g4 g5 g6
end K01
end -- K01E9

section -- K01EA
set_option Elab.async false
set_option linter.all false
set_option maxRecDepth 100000
set_option maxHeartbeats 4000000
namespace K01
open Ev K01M
theorem ne_emptyL {xs : List D} (hp : plainL xs = true) : opCmp .ne (.lst xs) (.lst []) = some (!xs.isEmpty) := by
  show (opEq _ _).map (!·) = _
  unfold opEq okEq
  have hd : decide (min (depthD (.lst xs)) (depthD (.lst [])) ≤ 100) = true := decide_eq_true (by simp [depthD, depthL])
  rw [hd]
  simp only [plainD, hp, plainL, Bool.and_self, if_true]
  cases xs <;> simp [eqD, eqL]
theorem ne_emptyT {xs : List D} (hp : plainL xs = true) : opCmp .ne (.tup xs) (.tup []) = some (!xs.isEmpty) := by
  show (opEq _ _).map (!·) = _
  unfold opEq okEq
  have hd : decide (min (depthD (.tup xs)) (depthD (.tup [])) ≤ 100) = true := decide_eq_true (by simp [depthD, depthL])
  rw [hd]
  simp only [plainD, hp, plainL, Bool.and_self, if_true]
  cases xs <;> simp [eqD, eqL]
theorem ne_enc (rs : RS) : opCmp .ne (enc rs) (.tup []) = some (!rs.isEmpty) := by
  unfold enc
  rw [ne_emptyT (plain_map _ plain_encP rs)]
  cases rs <;> rfl
theorem enc_head {p : Int × Int} {r : RS} : opSub (enc (p :: r)) (.int 0) = some (encP p) := sub_enc (rs := p :: r) (k := 0) rfl
def lsS : List S := [(.asg (.name 2) (.call 11 [.bor, .bor] [(.bvar 0), (.var 1)])), (.ite (.cmp .ne (.var 2) (.tup [])) [(.ret (.call 5 [.bor] [(.sub (.sub (.var 2) (.con (.int 0))) (.con (.int 0)))]))] [])]
def lsB (c : CF) : D → Env → SOut := fun x ρ => match bindT (.name 1) x ρ with
      | some ρ => evSs c WFU lsS ρ
      | none => .stuck
theorem canon_head {q : Int × Int} {r : RS} (h : Canon 0 (q :: r)) : q.1.toNat < 97 ∧ D.int q.1 = iN q.1.toNat := by
  obtain ⟨c1, c2, c3, _⟩ := h
  refine ⟨by omega, ?_⟩
  unfold iN
  congr 1; omega
theorem ls_step {n : Nat} (hn : 3 ≤ n) {rs : RS} (hr : Canon 0 rs) {p : Int × Int} (hp : Canon 0 [p]) (a b : Option D) :
    lsB (evF fs WFU n) (enc [p]) [some (enc rs), a, b] = match (bo rs [p]).head? with
      | some q => .ret (.str [sg q.1.toNat]) [some (enc rs), some (enc [p]), some (enc (bo rs [p]))]
      | none => .next [some (enc rs), some (enc [p]), some (enc (bo rs [p]))] := by
  have hb := l_both hn hr hp
  have hbc := (bo_ok hr hp).1
  unfold lsB
  cases e : bo rs [p] with
  | nil =>
    rw [e] at hb
    have hne := ne_enc []
    simp [lsS, bindT, evSs, evS, testE, evE, evEs, Out.bind, Out.toS, SOut.then, lift, gv, reread, putIO, hb, hne, truthD]
  | cons q r =>
    rw [e] at hb hbc
    have hne := ne_enc (q :: r)
    obtain ⟨q1, q2⟩ := canon_head hbc
    have hs := l_sign_of (n := n) (by omega) q1
    rw [← q2] at hs
    simp [lsS, bindT, evSs, evS, testE, evE, evEs, Out.bind, Out.toS, SOut.then, lift, gv, reread, putIO, hb, hne, truthD, enc_head, sub0, hs]
theorem ls_loop {n : Nat} (hn : 3 ≤ n) {rs : RS} (hr : Canon 0 rs) : ∀ (l : List (Int × Int)) (hl : ∀ p ∈ l, Canon 0 [p]) (a b : Option D), ∃ a' b',
    forLoop (lsB (evF fs WFU n)) (l.map fun p => enc [p]) [some (enc rs), a, b] = match l.findSome? fun p => (bo rs [p]).head? with
      | some q => .ret (.str [sg q.1.toNat]) [some (enc rs), a', b']
      | none => .next [some (enc rs), a', b']
  | [], _, a, b => ⟨a, b, rfl⟩
  | p :: l, hl, a, b => by
    rw [List.map_cons, forLoop, ls_step hn hr (hl p List.mem_cons_self), List.findSome?_cons]
    cases e : (bo rs [p]).head? with
    | some q => exact ⟨_, _, rfl⟩
    | none => exact ls_loop hn hr l (fun q hq => hl q (List.mem_cons_of_mem _ hq)) _ _
theorem segs_canon : ∀ p ∈ segs, Canon 0 [p] := by
  intro p hp
  simp [segs] at hp
  rcases hp with e | e | e | e | e | e <;> subst e <;> exact ⟨by decide, by decide, by decide, trivial⟩
theorem ls_fin {n : Nat} (hn : 1 ≤ n) {rs : RS} (hr : Canon 0 rs) (o : Option (Int × Int)) (a b : Option D) {s1 : S} {ρ0 : Env}
    (h : evS (evF fs WFU n) WFU s1 ρ0 = match o with
      | some q => .ret (.str [sg q.1.toNat]) [some (enc rs), a, b]
      | none => .next [some (enc rs), a, b]) :
    finE [.bor] (evSs (evF fs WFU n) WFU [s1, .ret (.ite (.cmp .ne (.bvar 0) (.tup [])) (.call 5 [.bor] [(.sub (.sub (.bvar 0) (.con (.int 0))) (.con (.int 0)))]) (.con .non))] ρ0) = .ok (strD ((o.or rs.head?).map (·.1.toNat))) [] := by
  rw [evSs, h]
  cases o with
  | some q => rfl
  | none =>
    cases rs with
    | nil =>
      have hne := ne_enc []
      simp [evSs, evS, testE, evE, evEs, Out.bind, Out.toS, SOut.then, lift, gv, reread, putIO, hne, truthD, finE, outsOf, strD]
    | cons q r =>
      have hne := ne_enc (q :: r)
      obtain ⟨q1, q2⟩ := canon_head hr
      have hs := l_sign_of (n := n) (by omega) q1
      rw [← q2] at hs
      simp [evSs, evS, testE, evE, evEs, Out.bind, Out.toS, SOut.then, lift, gv, reread, putIO, hne, truthD, enc_head, sub0, hs, finE, outsOf, strD]
theorem l_least {n : Nat} (hn : 4 ≤ n) {rs : RS} (hr : Canon 0 rs) : evF fs WFU n 15 [enc rs] = .ok (leastM rs) [] := by
  obtain ⟨n, rfl⟩ := Nat.exists_eq_add_of_le' (show 1 ≤ n by omega)
  rw [cf_eq (g := f_least_sign) rfl rfl]
  obtain ⟨a, b, h⟩ := ls_loop (n := n) (by omega) hr segs segs_canon none none
  refine ls_fin (by omega) hr (segs.findSome? fun p => (bo rs [p]).head?) a b ?_
  exact h
/-! ### _law_least_one -/
theorem order_eq : ([97, 98, 99, 100, 101, 102, 103, 104, 105, 106, 107, 108, 109, 110, 111, 112, 113, 114, 115, 116, 117, 118, 119, 120, 121, 122, 65, 66, 67, 68, 69, 70, 71, 72, 73, 74, 75, 76, 77, 78, 79, 80, 81, 82, 83, 84, 85, 86, 87, 88, 89, 90, 48, 49, 50, 51, 52, 53, 54, 55, 56, 57] : List Nat) = ON1.map sg := by decide +kernel
theorem ON1_lt : ∀ k ∈ ON1, k < 97 := by decide +kernel
theorem ON2_lt : ∀ k ∈ ON2, k < 97 := by decide +kernel
theorem lo_fits {n : Nat} (hn : 1 ≤ n) (l : List Nat) (r1 r2 r3 r4 : Option D) (ρ : Env) (hρ : ρ = [some (cI l), some (.str (ON1.map sg)), r2, r3, none, none]) :
    evE (evF fs WFU n) (.comp (.var 4) (.name 4) (.var 1) [(.cmp .in_ (.meth .find (.call 20 [] []) [(.var 4)]) (.bvar 0))] [4]) ρ = .ok (.lst ((ON1.filter fun k => decide (k ∈ l)).map fun k => .str [sg k])) ρ := by
  subst hρ
  refine (comp_map (ρ0 := [some (cI l), some (.str (ON1.map sg)), r2, r3, none, none]) (g := fun k => D.str [sg k]) (xs := ON1) (f := fun k => if decide (k ∈ l) = true then some (.str [sg k]) else none) (x := .str (ON1.map sg)) (by simp [evE, lift, gv]) (by simp [itemsD]) fun k hk => ?_).trans ?_
  · have h20 := l_signs hn
    have hf : opM .find (.str SG) [.str [sg k]] = some (iN k) := by simp only [opM]; rw [find_sg k (ON1_lt k hk)]; rfl
    have hin : opCmp .in_ (iN k) (cI l) = some (decide (k ∈ l)) := opIn_cI k l
    by_cases e : k ∈ l <;> simp [stepC, bindT, evAll, evE, evEs, Out.bind, lift, gv, wipeE, reread, putIO, h20, recvOk, hf, hin, e, truthD]
  · rw [fm_filter]; simp [restore, wipeE, gv]
theorem lo_rest {c : CF} (l : List Nat) (r1 r2 r3 : Option D) :
    evE c (.comp (.var 5) (.name 5) (.bin .add (.bi .list [(.rng [(.con (.int 3)), (.con (.int 97))])]) (.lst [(.con (.int 2)), (.con (.int 1)), (.con (.int 0))])) [(.cmp .in_ (.var 5) (.bvar 0))] [5]) [some (cI l), r1, r2, r3, none, none] = .ok (cI (ON2.filter fun k => decide (k ∈ l))) [some (cI l), r1, r2, r3, none, none] := by
  refine (comp_map (ρ0 := [some (cI l), r1, r2, r3, none, none]) (g := iN) (xs := ON2) (f := fun k => if decide (k ∈ l) = true then some (iN k) else none) (x := cI ON2) ?_ rfl fun k hk => ?_).trans ?_
  · have hr : opRng [.int 3, .int 97] = some (cI (List.range' 3 94)) := by rfl
    have hrg : evE c (.rng [(.con (.int 3)), (.con (.int 97))]) [some (cI l), r1, r2, r3, none, none] = .ok (cI (List.range' 3 94)) [some (cI l), r1, r2, r3, none, none] := e_rng (xs := [.int 3, .int 97]) (by simp [evEs, evE, Out.bind]) hr
    have hli : opB .list [cI (List.range' 3 94)] = some (cI (List.range' 3 94)) := rfl
    have had : opBin .add (cI (List.range' 3 94)) (.lst [.int 2, .int 1, .int 0]) = some (cI ON2) := by rfl
    generalize E.rng _ = x1 at hrg ⊢
    simp [evE, evEs, Out.bind, lift, hrg, hli, had]
  · have hin : opCmp .in_ (iN k) (cI l) = some (decide (k ∈ l)) := opIn_cI k l
    by_cases e : k ∈ l <;> simp [stepC, bindT, evAll, evE, evEs, Out.bind, lift, gv, wipeE, hin, e, truthD]
  · rw [fm_filter]; simp [restore, wipeE, gv, cI]
theorem plain_strs : ∀ l : List Nat, plainL (l.map fun k => D.str [sg k]) = true := plain_map _ fun _ => rfl
theorem lo_fin {n : Nat} (hn : 1 ≤ n) (l1 l2 : List Nat) (h2 : ∀ k ∈ l2, k < 97) (r0 r1 r4 r5 : Option D) :
    finE [.bor] (evSs (evF fs WFU n) WFU [(.ret (.ite (.cmp .ne (.var 2) (.lst [])) (.sub (.var 2) (.con (.int 0))) (.ite (.cmp .ne (.var 3) (.lst [])) (.sub (.call 20 [] []) (.sub (.var 3) (.con (.int 0)))) (.con .non))))] [r0, r1, some (.lst (l1.map fun k => .str [sg k])), some (cI l2), r4, r5]) = .ok (strD (l1.head?.or l2.head?)) [] := by
  have n1 := ne_emptyL (plain_strs l1)
  have n2 : opCmp .ne (cI l2) (.lst []) = some (!(l2.map iN).isEmpty) := ne_emptyL (plain_map _ plain_iN l2)
  have h20 := l_signs hn
  cases l1 with
  | cons k r =>
    have hs : opSub (.lst ((k :: r).map fun k => D.str [sg k])) (.int 0) = some (.str [sg k]) := (sub_at (xs := (k :: r).map fun k => D.str [sg k]) (k := 0) rfl).2
    simp [evSs, evS, evE, evEs, Out.bind, Out.toS, SOut.then, lift, gv, truthD, finE, outsOf, strD]
    simp only [List.map_cons] at n1 hs
    rw [n1]
    simp [hs]
  | nil =>
    cases l2 with
    | nil =>
      simp only [List.map_nil] at n1 n2
      simp [evSs, evS, evE, evEs, Out.bind, Out.toS, SOut.then, lift, gv, truthD, finE, outsOf, strD, n1, n2]
    | cons k r =>
      have hs : opSub (cI (k :: r)) (.int 0) = some (iN k) := (sub_at (xs := (k :: r).map iN) (k := 0) rfl).2
      have hk := sub_SG (h2 k List.mem_cons_self)
      simp only [List.map_nil] at n1
      simp [evSs, evS, evE, evEs, Out.bind, Out.toS, SOut.then, lift, gv, truthD, finE, outsOf, strD, n1, n2, hs, hk, h20, reread, putIO]
theorem l_least_one {n : Nat} (hn : 2 ≤ n) (l : List Nat) : evF fs WFU n 23 [cI l] = .ok (lsM l) [] := by
  obtain ⟨n, rfl⟩ := Nat.exists_eq_add_of_le' (show 1 ≤ n by omega)
  rw [cf_eq (g := f__law_least_one) rfl rfl]
  have e1 := lo_fits (n := n) (by omega) l none none none none _ rfl
  have e2 := lo_rest (c := evF fs WFU n) l (some (.str (ON1.map sg))) (some (.lst ((ON1.filter fun k => decide (k ∈ l)).map fun k => .str [sg k]))) none
  have e3 := lo_fin (n := n) (by omega) (ON1.filter fun k => decide (k ∈ l)) (ON2.filter fun k => decide (k ∈ l)) (fun k hk => ON2_lt k (List.mem_filter.mp hk).1) (some (cI l)) (some (.str (ON1.map sg))) none none
  have key : ∀ (x1 x2 : E), evE (evF fs WFU n) x1 [some (cI l), some (.str (ON1.map sg)), none, none, none, none] = .ok (.lst ((ON1.filter fun k => decide (k ∈ l)).map fun k => .str [sg k])) [some (cI l), some (.str (ON1.map sg)), none, none, none, none] →
      evE (evF fs WFU n) x2 [some (cI l), some (.str (ON1.map sg)), some (.lst ((ON1.filter fun k => decide (k ∈ l)).map fun k => .str [sg k])), none, none, none] = .ok (cI (ON2.filter fun k => decide (k ∈ l))) [some (cI l), some (.str (ON1.map sg)), some (.lst ((ON1.filter fun k => decide (k ∈ l)).map fun k => .str [sg k])), none, none, none] → ∀ s4 : S,
      finE [.bor] (evSs (evF fs WFU n) WFU [.asg (.name 1) (.con (.str (ON1.map sg))), .asg (.name 2) x1, .asg (.name 3) x2, s4] [some (cI l), none, none, none, none, none]) = finE [.bor] (evSs (evF fs WFU n) WFU [s4] [some (cI l), some (.str (ON1.map sg)), some (.lst ((ON1.filter fun k => decide (k ∈ l)).map fun k => .str [sg k])), some (cI (ON2.filter fun k => decide (k ∈ l))), none, none]) := fun x1 x2 h1 h2 s4 => by
    simp only [evSs, evS, evE, Out.toS, bindT, List.set, SOut.then, h1, h2]
  have e4 := (key _ _ e1 e2 _).trans e3
  rw [← order_eq] at e4
  exact e4
end K01
end -- K01EA

section -- K01EB
set_option Elab.async false
set_option linter.all false
set_option maxRecDepth 100000
set_option maxHeartbeats 4000000
namespace K01
open Ev K01M
/-! ### texts -/
def prs (ks : List Nat) : RS := ks.map fun (k : Nat) => ((k : Int), (k : Int))
theorem prs_in {ks : List Nat} (h : ∀ k ∈ ks, k < 97) : ∀ p ∈ prs ks, In p := fun p hp => by
  obtain ⟨k, hk, rfl⟩ := List.mem_map.mp hp
  have := h k hk
  exact ⟨by show (0 : Int) ≤ k; omega, Int.le_refl _, by show (k : Int) ≤ 96; omega⟩
theorem memR_prs {k : Nat} : ∀ {ks : List Nat}, memR (k : Int) (prs ks) = decide (k ∈ ks)
  | [] => by simp [prs, memR]
  | x :: xs => by
    have ih := memR_prs (k := k) (ks := xs)
    unfold prs at ih ⊢
    rw [List.map_cons, memR, ih, Bool.eq_iff_iff]
    simp only [Bool.or_eq_true, Bool.and_eq_true, decide_eq_true_eq, List.mem_cons]
    have : ((x : Int) ≤ (k : Int) ∧ (k : Int) ≤ (x : Int)) ↔ k = x := by omega
    rw [this]
theorem l_signs_in {n : Nat} (hn : 2 ≤ n) {ks : List Nat} (h : ∀ k ∈ ks, k < 97) (hl : ks.length ≤ 100) : evF fs WFU n 7 [.str (ks.map sg)] = .ok (enc (sb (prs ks))) [] := by
  obtain ⟨n, rfl⟩ := Nat.exists_eq_add_of_le' (show 1 ≤ n by omega)
  rw [cf_eq (g := f_signs_in) rfl rfl]
  have a1 : evE (evF fs WFU n) (.comp (.tup [(.call 4 [.bor] [(.var 1)]), (.call 4 [.bor] [(.var 1)])]) (.name 1) (.bvar 0) [] [1]) [some (.str (ks.map sg)), none] = .ok (encl (prs ks)) [some (.str (ks.map sg)), none] := by
    refine (comp_map (ρ0 := [some (.str (ks.map sg)), none]) (g := fun k => D.str [sg k]) (xs := ks) (f := fun k => some (encP ((k : Int), (k : Int)))) (x := .str (ks.map sg)) (by simp [evE, lift, gv]) (by simp [itemsD]) fun k hk => ?_).trans ?_
    · have h4 := l_number (n := n) (by omega) (h k hk)
      simp [stepC, bindT, evAll, evE, evEs, Out.bind, lift, gv, wipeE, reread, putIO, h4, encP, iN]
    · rw [fm_some]; simp [restore, wipeE, gv, encl, prs]
  have a2 := l_signs_by (n := n) (by omega) (prs ks) (encl (prs ks)) rfl (by unfold prs; simp; omega)
  have key : ∀ x1 : E, (∀ i, x1 ≠ .bvar i) → evE (evF fs WFU n) x1 [some (.str (ks.map sg)), none] = .ok (encl (prs ks)) [some (.str (ks.map sg)), none] → finE [.bor] (evSs (evF fs WFU n) WFU [.ret (.call 6 [.bor] [x1])] [some (.str (ks.map sg)), none]) = .ok (enc (sb (prs ks))) [] := fun x1 hb h1 => by
    have : reread [x1] [encl (prs ks)] [some (.str (ks.map sg)), none] = some [encl (prs ks)] := by
      cases x1 <;> simp_all [reread]
    simp [evSs, evS, evE, evEs, Out.bind, h1, this, a2, Out.toS, SOut.then, finE, outsOf, putIO]
  exact key _ (by simp) a1
theorem l_is_text {n : Nat} (hn : 1 ≤ n) {ks : List Nat} (h : ∀ k ∈ ks, k < 97) : evF fs WFU n 3 [.str (ks.map sg)] = .ok (.bl true) [] := by
  obtain ⟨n, rfl⟩ := Nat.exists_eq_add_of_le' (show 1 ≤ n by omega)
  rw [cf_eq (g := f_is_text) rfl rfl]
  have a1 : evE (evF fs WFU n) (.bi .all [(.comp (.cmp .in_ (.var 1) (.glob g_SIGNS)) (.name 1) (.bvar 0) [] [1])]) [some (.str (ks.map sg)), none] = .ok (.bl true) [some (.str (ks.map sg)), none] := by
    refine (comp_all (ρ0 := [some (.str (ks.map sg)), none]) (g := fun k => D.str [sg k]) (xs := ks) (f := fun k => true) (x := .str (ks.map sg)) (by simp [evE, lift, gv]) (by simp [itemsD]) fun k hk => ?_).trans ?_
    · have h4 : opCmp .in_ (.str [sg k]) (.str SG) = some true := by
        simp only [opCmp, opIn, infixS, find_sg k (h k hk)]; rfl
      simp [stepC, bindT, evAll, evE, evEs, Out.bind, lift, gv, wipeE, g_SG, h4]
    · simp [restore, wipeE, gv]
  have key : ∀ x1 : E, evE (evF fs WFU n) x1 [some (.str (ks.map sg)), none] = .ok (.bl true) [some (.str (ks.map sg)), none] → finE [.bor] (evSs (evF fs WFU n) WFU [.ret (.andL [(.isinst (.bvar 0) .str), x1])] [some (.str (ks.map sg)), none]) = .ok (.bl true) [] := fun x1 h1 => by
    have : isTy (.str (ks.map sg)) .str = some true := rfl
    simp [evSs, evS, evE, evEs, evAnd, Out.bind, h1, this, Out.toS, SOut.then, finE, outsOf, lift, gv, truthD]
  exact key _ a1
theorem l_not_text {n : Nat} (hn : 1 ≤ n) {d : D} (h : isTy d .str = some false) : evF fs WFU n 3 [d] = .ok (.bl false) [] := by
  obtain ⟨n, rfl⟩ := Nat.exists_eq_add_of_le' (show 1 ≤ n by omega)
  rw [cf_eq (g := f_is_text) rfl rfl]
  have key : ∀ x1 : E, finE [.bor] (evSs (evF fs WFU n) WFU [.ret (.andL [(.isinst (.bvar 0) .str), x1])] [some d, none]) = .ok (.bl false) [] := fun x1 => by
    simp [evSs, evS, evE, evEs, evAnd, Out.bind, h, Out.toS, SOut.then, finE, outsOf, lift, gv, truthD]
  exact key _
/-! ### rows of numbers, sorted -/
def insN (x : Nat) : List Nat → List Nat
  | [] => [x]
  | y :: ys => if y < x then y :: insN x ys else x :: y :: ys
def sortN : List Nat → List Nat
  | [] => []
  | x :: xs => insN x (sortN xs)
theorem ins_iN (p : Nat) : ∀ l : List Nat, sortD.insRev (iN p) (l.map iN) = (insN p l).map iN
  | [] => by simp [sortD.insRev, insN]
  | q :: l => by
    have h : ltD (iN q) (iN p) = decide (q < p) := by unfold iN; rw [ltD, Bool.eq_iff_iff]; simp
    rw [List.map_cons, sortD.insRev, h, insN, ins_iN p l]
    by_cases h : q < p
    · simp [h]
    · simp [h]
theorem sort_iN : ∀ l : List Nat, sortD (l.map iN) = (sortN l).map iN
  | [] => by simp [sortD, sortN]
  | p :: l => by rw [List.map_cons, sortD, sort_iN l, ins_iN, sortN]
theorem sorted_cI (l : List Nat) : opB .sorted [cI l] = some (cI (sortN l)) := by
  have h1 : ((l.map iN).all fun x => decide (depthD x ≤ 100) && (l.map iN).all fun y => okLt x y) = true := by
    rw [List.all_map, List.all_eq_true]
    intro p _
    simp only [Function.comp, depth_iN, Bool.and_eq_true, List.all_map, List.all_eq_true]
    exact ⟨by decide, fun q _ => rfl⟩
  have h2 : (l.map iN).all isIntD = true := by
    rw [List.all_map, List.all_eq_true]
    intro p _; rfl
  unfold opB cI
  simp only [seqD]
  have : sortable (l.map iN) = true := by unfold sortable; rw [h1, h2]; rfl
  rw [this, sort_iN]; rfl
theorem insN_mem {x z : Nat} : ∀ {l : List Nat}, z ∈ insN x l ↔ z = x ∨ z ∈ l
  | [] => by simp [insN]
  | y :: ys => by
    unfold insN
    by_cases h : y < x
    · rw [if_pos h, List.mem_cons, insN_mem, List.mem_cons]
      constructor
      · rintro (h | h | h)
        · exact .inr (.inl h)
        · exact .inl h
        · exact .inr (.inr h)
      · rintro (h | h | h)
        · exact .inr (.inl h)
        · exact .inl h
        · exact .inr (.inr h)
    · rw [if_neg h, List.mem_cons]
theorem sortN_mem {z : Nat} : ∀ {l : List Nat}, z ∈ sortN l ↔ z ∈ l
  | [] => Iff.rfl
  | x :: xs => by unfold sortN; rw [insN_mem, sortN_mem, List.mem_cons]
theorem insN_srt {x : Nat} : ∀ {l : List Nat}, l.Pairwise (· < ·) → x ∉ l → (insN x l).Pairwise (· < ·)
  | [], _, _ => List.pairwise_singleton _ _
  | y :: ys, h, hx => by
    obtain ⟨h1, h2⟩ := List.pairwise_cons.mp h
    simp only [List.mem_cons, not_or] at hx
    unfold insN
    by_cases e : y < x
    · rw [if_pos e]
      refine List.pairwise_cons.mpr ⟨fun z hz => ?_, insN_srt h2 hx.2⟩
      rcases insN_mem.mp hz with hz | hz
      · omega
      · exact h1 z hz
    · rw [if_neg e]
      refine List.pairwise_cons.mpr ⟨fun z hz => ?_, h⟩
      rcases List.mem_cons.mp hz with hz | hz
      · omega
      · have := h1 z hz; omega
theorem sortN_srt : ∀ {l : List Nat}, l.Nodup → (sortN l).Pairwise (· < ·)
  | [], _ => List.Pairwise.nil
  | x :: xs, h => by
    obtain ⟨h1, h2⟩ := List.nodup_cons.mp h
    unfold sortN
    exact insN_srt (sortN_srt h2) fun hm => h1 (sortN_mem.mp hm)
theorem lt_uniq : ∀ {xs ys : List Nat}, xs.Pairwise (· < ·) → ys.Pairwise (· < ·) → (∀ z, z ∈ xs ↔ z ∈ ys) → xs = ys
  | [], [], _, _, _ => rfl
  | [], y :: ys, _, _, h => absurd ((h y).mpr List.mem_cons_self) (by simp)
  | x :: xs, [], _, _, h => absurd ((h x).mp List.mem_cons_self) (by simp)
  | x :: xs, y :: ys, hx, hy, h => by
    obtain ⟨x1, x2⟩ := List.pairwise_cons.mp hx
    obtain ⟨y1, y2⟩ := List.pairwise_cons.mp hy
    have e : x = y := by
      rcases List.mem_cons.mp ((h x).mp List.mem_cons_self) with e | e
      · exact e
      · rcases List.mem_cons.mp ((h y).mpr List.mem_cons_self) with e' | e'
        · exact e'.symm
        · have := x1 y e'; have := y1 x e; omega
    subst e
    rw [lt_uniq x2 y2 fun z => ?_]
    constructor
    · intro hz
      rcases List.mem_cons.mp ((h z).mp (List.mem_cons_of_mem _ hz)) with e | e
      · have := x1 z hz; omega
      · exact e
    · intro hz
      rcases List.mem_cons.mp ((h z).mpr (List.mem_cons_of_mem _ hz)) with e | e
      · have := y1 z hz; omega
      · exact e
theorem range_lt (n : Nat) : (List.range n).Pairwise (· < ·) := List.pairwise_lt_range
theorem cod_srt (rs : RS) : (cod rs).Pairwise (· < ·) := (range_lt 97).filter _
/-- each number where it comes first -/
def ded1 (ks : List Nat) (i : Nat) : Option Nat := if decide (ks.getD i 0 ∈ ks.take i) = true then none else some (ks.getD i 0)
def ded (ks : List Nat) (n : Nat) : List Nat := (List.range n).filterMap (ded1 ks)
theorem ded_ok (ks : List Nat) : ∀ n, n ≤ ks.length → (ded ks n).Nodup ∧ ∀ z, z ∈ ded ks n ↔ z ∈ ks.take n
  | 0, _ => by simp [ded]
  | n + 1, h => by
    obtain ⟨i1, i2⟩ := ded_ok ks n (by omega)
    have hg : ks[n]? = some (ks.getD n 0) := by
      rw [List.getD_eq_getElem?_getD, List.getElem?_eq_getElem (by omega)]; rfl
    have ht : ks.take (n + 1) = ks.take n ++ [ks.getD n 0] := by
      rw [List.take_add_one, hg]; rfl
    have hd : ded ks (n + 1) = ded ks n ++ (ded1 ks n).toList := by
      unfold ded
      rw [List.range_succ, List.filterMap_append]
      rw [List.filterMap_cons, List.filterMap_nil]
      cases e : ded1 ks n <;> rfl
    rw [hd, ht]
    unfold ded1
    by_cases hm : ks.getD n 0 ∈ ks.take n
    · simp only [hm, decide_true, if_true, Option.toList_none, List.append_nil]
      refine ⟨i1, fun z => ?_⟩
      rw [i2, List.mem_append]
      constructor
      · exact .inl
      · rintro (h | h)
        · exact h
        · rw [List.mem_singleton.mp h]; exact hm
    · simp only [hm, decide_false, Bool.false_eq_true, if_false, Option.toList_some]
      refine ⟨?_, fun z => by rw [List.mem_append, List.mem_append, i2]⟩
      refine List.nodup_append.mpr ⟨i1, by simp, fun a ha b hb => ?_⟩
      rw [List.mem_singleton.mp hb]
      intro e; subst e
      exact hm ((i2 _).mp ha)
theorem ded_cod {ks : List Nat} (h : ∀ k ∈ ks, k < 97) : sortN (ded ks ks.length) = cod (sb (prs ks)) := by
  obtain ⟨d1, d2⟩ := ded_ok ks ks.length (Nat.le_refl _)
  refine lt_uniq (sortN_srt d1) (cod_srt _) fun z => ?_
  rw [sortN_mem, d2, List.take_length, mem_cod, (sb_ok (prs_in h)).2, memR_prs]
  constructor
  · exact fun hz => ⟨h z hz, decide_eq_true hz⟩
  · exact fun hz => of_decide_eq_true hz.2
end K01
end -- K01EB

section -- K01EC
set_option Elab.async false
set_option linter.all false
set_option maxRecDepth 100000
set_option maxHeartbeats 4000000
namespace K01
open Ev K01M
/-! ### rows of sets, sorted -/
theorem okLtL_encP : ∀ (a b : RS), okLtL (a.map encP) (b.map encP) = true
  | [], _ => by simp [okLtL]
  | _ :: _, [] => by simp [okLtL]
  | p :: a, q :: b => by
    rw [List.map_cons, List.map_cons, okLtL, okLtL_encP a b, okLt_encP]
    unfold okEq
    rw [plain_encP, plain_encP, depth_encP, depth_encP]
    simp
theorem okLt_enc (a b : RS) : okLt (enc a) (enc b) = true := by unfold enc; rw [okLt]; exact okLtL_encP a b
def insR (x : RS) : List RS → List RS
  | [] => [x]
  | y :: ys => if ltD (enc y) (enc x) then y :: insR x ys else x :: y :: ys
def sortR : List RS → List RS
  | [] => []
  | x :: xs => insR x (sortR xs)
theorem ins_enc (p : RS) : ∀ l : List RS, sortD.insRev (enc p) (l.map enc) = (insR p l).map enc
  | [] => by simp [sortD.insRev, insR]
  | q :: l => by
    rw [List.map_cons, sortD.insRev, insR, ins_enc p l]
    by_cases h : ltD (enc q) (enc p) = true
    · simp [h]
    · simp [h]
theorem sort_enc : ∀ l : List RS, sortD (l.map enc) = (sortR l).map enc
  | [] => by simp [sortD, sortR]
  | p :: l => by rw [List.map_cons, sortD, sort_enc l, ins_enc, sortR]
theorem insR_perm (x : RS) : ∀ l : List RS, (insR x l).Perm (x :: l)
  | [] => .refl _
  | y :: ys => by
    unfold insR
    by_cases h : ltD (enc y) (enc x) = true
    · rw [if_pos h]; exact ((insR_perm x ys).cons y).trans (.swap ..)
    · rw [if_neg h]
theorem sortR_perm : ∀ l : List RS, (sortR l).Perm l
  | [] => .refl _
  | x :: xs => (insR_perm x _).trans ((sortR_perm xs).cons x)
theorem sortT_fix : ∀ {l : List D}, SrtO.Srtd ltT l → sortT l = l
  | [], _ => rfl
  | x :: xs, h => by
    obtain ⟨h1, h2⟩ := List.pairwise_cons.mp h
    unfold sortT
    rw [sortT_fix h2]
    cases xs with
    | nil => rfl
    | cons y ys =>
      unfold insT
      rw [h1 y List.mem_cons_self]; rfl
theorem sort_idem (l : List RS) : sortD ((sortR l).map enc) = (sortR l).map enc := by
  have ok : ∀ l : List RS, ∀ x ∈ l.map enc, ∀ y ∈ l.map enc, okLt x y = true := fun l x hx y hy => by
    obtain ⟨a, _, rfl⟩ := List.mem_map.mp hx
    obtain ⟨b, _, rfl⟩ := List.mem_map.mp hy
    exact okLt_enc a b
  rw [sort_same _ (ok (sortR l)), ← sort_enc, sort_same _ (ok l)]
  exact sortT_fix (sortT_ok _).1
theorem sorted_enc {l : List RS} (h : ∀ x ∈ l, x ≠ []) : opB .sorted [.lst (l.map enc)] = some (.lst ((sortR l).map enc)) := by
  have h1 : ((l.map enc).all fun x => decide (depthD x ≤ 100) && (l.map enc).all fun y => okLt x y) = true := by
    rw [List.all_map, List.all_eq_true]
    intro p _
    have := depth_enc p
    simp only [Function.comp, Bool.and_eq_true, List.all_map, List.all_eq_true]
    exact ⟨decide_eq_true (by omega), fun q _ => okLt_enc p q⟩
  have h2 : (l.map enc).all (headIs isTupD) = true := by
    rw [List.all_map, List.all_eq_true]
    intro p hp
    cases p with
    | nil => exact absurd rfl (h _ hp)
    | cons q r => rfl
  have : sortable (l.map enc) = true := by unfold sortable; rw [h1, h2]; simp
  unfold opB
  simp only [seqD]
  rw [this, sort_enc]; rfl
theorem sortR_idem (l : List RS) : (sortR (sortR l)).map enc = (sortR l).map enc := by rw [← sort_enc, sort_idem]
/-! ### the classes -/
def cst (o s : RS) : List RS := [bo s o, le s o].filter fun x => !x.isEmpty
def encs (l : List RS) : D := .lst (l.map enc)
def cB2 (c : CF) : D → Env → SOut := fun x ρ => match bindT (.name 5) x ρ with
      | some ρ => evSs c WFU [(.ite (.cmp .ne (.var 5) (.tup [])) [(.append 3 (.var 5))] [])] ρ
      | none => .stuck
theorem cB2_step (c : CF) (r0 r1 r2 r4 r5 : Option D) (acc : List RS) (hl : acc.length < 10000) (p : RS) :
    cB2 c (enc p) [r0, r1, r2, some (encs acc), r4, r5] = .next [r0, r1, r2, some (encs (acc ++ [p].filter fun x => !x.isEmpty)), r4, some (enc p)] := by
  have hne := ne_enc p
  have hl2 : (acc.map enc).length < LIM := by show _ < 16777216; simp; omega
  unfold cB2
  cases p with
  | nil => simp [bindT, evSs, evS, testE, evE, evEs, Out.bind, Out.toS, SOut.then, lift, gv, hne, truthD, encs]
  | cons q r =>
    have he : encs acc = .lst (acc.map enc) := rfl
    simp [bindT, evSs, evS, testE, evE, evEs, Out.bind, Out.toS, SOut.then, lift, gv, hne, truthD]
    rw [he]
    simp only [hl2, if_true]
    simp [encs]
theorem cB2_loop (c : CF) (r0 r1 r2 r4 r5 : Option D) (acc : List RS) (hl : acc.length < 1000) (p q : RS) :
    forLoop (cB2 c) [enc p, enc q] [r0, r1, r2, some (encs acc), r4, r5] = .next [r0, r1, r2, some (encs (acc ++ [p, q].filter fun x => !x.isEmpty)), r4, some (enc q)] := by
  rw [forLoop, cB2_step c r0 r1 r2 r4 r5 acc (by omega) p]
  simp only []
  have : (acc ++ [p].filter fun x => !x.isEmpty).length < 10000 := by
    have := List.length_filter_le (fun x : RS => !x.isEmpty) [p]
    simp only [List.length_append, List.length_cons, List.length_nil] at *
    omega
  rw [forLoop, cB2_step c r0 r1 r2 r4 _ _ this q]
  simp only [forLoop, List.append_assoc]
  congr 6
  cases p <;> cases q <;> rfl
def cS1 : List S := [(.for_ (.name 5) (.tup [(.call 11 [.bor, .bor] [(.var 4), (.var 2)]), (.call 12 [.bor, .bor] [(.var 4), (.var 2)])]) [(.ite (.cmp .ne (.var 5) (.tup [])) [(.append 3 (.var 5))] [])])]
def cB1 (c : CF) : D → Env → SOut := fun x ρ => match bindT (.name 4) x ρ with
      | some ρ => evSs c WFU cS1 ρ
      | none => .stuck
theorem cB1_step {n : Nat} (hn : 4 ≤ n) (r0 r1 r4 r5 : Option D) {o s : RS} (ho : Canon 0 o) (hs : Canon 0 s) (acc : List RS) (hl : acc.length < 1000) :
    ∃ r5', cB1 (evF fs WFU n) (enc s) [r0, r1, some (enc o), some (encs acc), r4, r5] = .next [r0, r1, some (enc o), some (encs (acc ++ cst o s)), some (enc s), r5'] := by
  have hb := l_both (n := n) (by omega) hs ho
  have hle := l_less (n := n) (by omega) hs ho
  refine ⟨some (enc (le s o)), ?_⟩
  have et : evE (evF fs WFU n) (.tup [(.call 11 [.bor, .bor] [(.var 4), (.var 2)]), (.call 12 [.bor, .bor] [(.var 4), (.var 2)])]) [r0, r1, some (enc o), some (encs acc), some (enc s), r5] = .ok (.tup [enc (bo s o), enc (le s o)]) [r0, r1, some (enc o), some (encs acc), some (enc s), r5] := by
    simp [evE, evEs, Out.bind, lift, gv, reread, putIO, hb, hle]
  show (evS _ _ (.for_ _ _ _) [r0, r1, some (enc o), some (encs acc), some (enc s), r5]).then _ = _
  rw [evS, et]
  have := cB2_loop (evF fs WFU n) r0 r1 (some (enc o)) (some (enc s)) r5 acc hl (bo s o) (le s o)
  show SOut.then (forLoop (cB2 (evF fs WFU n)) [enc (bo s o), enc (le s o)] _) _ = _
  rw [this]
  rfl
theorem cst_len (o s : RS) : (cst o s).length ≤ 2 := List.length_filter_le _ _
theorem cB1_loop {n : Nat} (hn : 4 ≤ n) (r0 r1 : Option D) {o : RS} (ho : Canon 0 o) : ∀ (l : List RS) (hc : ∀ s ∈ l, Canon 0 s) (acc : List RS) (hl : acc.length + 2 * l.length < 1000) (r4 r5 : Option D),
    ∃ r4' r5', forLoop (cB1 (evF fs WFU n)) (l.map enc) [r0, r1, some (enc o), some (encs acc), r4, r5] = .next [r0, r1, some (enc o), some (encs (acc ++ l.flatMap (cst o))), r4', r5']
  | [], _, acc, _, r4, r5 => ⟨r4, r5, by simp [forLoop]⟩
  | s :: l, hc, acc, hl, r4, r5 => by
    simp only [List.length_cons] at hl
    obtain ⟨r5', h1⟩ := cB1_step hn r0 r1 r4 r5 ho (hc s List.mem_cons_self) acc (by omega)
    have := cst_len o s
    obtain ⟨x, y, h2⟩ := cB1_loop hn r0 r1 ho l (fun z hz => hc z (List.mem_cons_of_mem _ hz)) (acc ++ cst o s) (by simp; omega) (some (enc s)) r5'
    refine ⟨x, y, ?_⟩
    rw [List.map_cons, forLoop, h1]
    simp only [h2, List.flatMap_cons, List.append_assoc]
def cS0 : List S := [(.asgO 3 (.lst [])), (.for_ (.name 4) (.var 1) cS1), (.asgM 1 3)]
def cB0 (c : CF) : D → Env → SOut := fun x ρ => match bindT (.name 2) x ρ with
      | some ρ => evSs c WFU cS0 ρ
      | none => .stuck
theorem cB0_step {n : Nat} (hn : 4 ≤ n) (r0 r2 r3 r4 r5 : Option D) {o : RS} (ho : Canon 0 o) (l : List RS) (hc : ∀ s ∈ l, Canon 0 s) (hl : l.length < 400) :
    ∃ r4' r5', cB0 (evF fs WFU n) (enc o) [r0, some (encs l), r2, r3, r4, r5] = .next [r0, some (encs (l.flatMap (cst o))), some (enc o), none, r4', r5'] := by
  obtain ⟨x, y, h⟩ := cB1_loop hn r0 (some (encs l)) ho l hc [] (by simp; omega) r4 r5
  refine ⟨x, y, ?_⟩
  have e1 : evS (evF fs WFU n) WFU (.asgO 3 (.lst [])) [r0, some (encs l), some (enc o), r3, r4, r5] = .next [r0, some (encs l), some (enc o), some (encs []), r4, r5] := by
    simp [evS, evE, evEs, Out.bind, Out.toS, isMut, encs]
  have e2 : evS (evF fs WFU n) WFU (.for_ (.name 4) (.var 1) cS1) [r0, some (encs l), some (enc o), some (encs []), r4, r5] = .next [r0, some (encs l), some (enc o), some (encs (l.flatMap (cst o))), x, y] := by
    rw [evS]
    exact h
  show evSs _ _ [.asgO 3 (.lst []), .for_ (.name 4) (.var 1) cS1, .asgM 1 3] [r0, some (encs l), some (enc o), r3, r4, r5] = _
  rw [evSs, e1]
  simp only [SOut.then]
  rw [evSs, e2]
  rfl
def W : RS := [(0, 96)]
theorem W_ok : Canon 0 W := ⟨by decide, by decide, by decide, trivial⟩
theorem W_mem (c : Int) : memR c W = inW c := by simp [W, memR, inW]
theorem cst_canon {o s : RS} (ho : Canon 0 o) (hs : Canon 0 s) : ∀ x ∈ cst o s, Canon 0 x ∧ x ≠ [] := fun x hx => by
  obtain ⟨h1, h2⟩ := List.mem_filter.mp hx
  refine ⟨?_, fun e => by subst e; simp at h2⟩
  rcases List.mem_cons.mp h1 with e | h1
  · subst e; exact (bo_ok hs ho).1
  · rw [List.mem_singleton.mp h1]; exact (le_ok hs ho).1
def clsM (F G : RS) : List RS := (cst F W).flatMap (cst G)
theorem cls_canon {F G : RS} (hF : Canon 0 F) (hG : Canon 0 G) : ∀ x ∈ clsM F G, Canon 0 x ∧ x ≠ [] := fun x hx => by
  obtain ⟨s, h1, h2⟩ := List.mem_flatMap.mp hx
  exact cst_canon hG (cst_canon hF W_ok s h1).1 x h2
theorem l_classes {n : Nat} (hn : 5 ≤ n) {F G : RS} (hF : Canon 0 F) (hG : Canon 0 G) : evF fs WFU n 16 [.lst [enc F, enc G]] = .ok (encs (sortR (clsM F G))) [] := by
  obtain ⟨n, rfl⟩ := Nat.exists_eq_add_of_le' (show 1 ≤ n by omega)
  rw [cf_eq (g := f_sign_classes) rfl rfl]
  have hev := l_every (n := n) (by omega)
  have e0 : evS (evF fs WFU n) WFU (.asg (.name 1) (.lst [(.call 8 [] [])])) [some (.lst [enc F, enc G]), none, none, none, none, none] = .next [some (.lst [enc F, enc G]), some (encs [W]), none, none, none, none] := by
    simp [evS, evE, evEs, Out.bind, Out.toS, reread, putIO, hev, bindT, encs, W]
  have hlen := cst_len F W
  obtain ⟨a1, b1, h1⟩ := cB0_step (n := n) (by omega) (some (.lst [enc F, enc G])) none none none none hF [W] (by simpa using W_ok) (by simp)
  have hfm : [W].flatMap (cst F) = cst F W := by simp
  rw [hfm] at h1
  obtain ⟨a2, b2, h2⟩ := cB0_step (n := n) (by omega) (some (.lst [enc F, enc G])) (some (enc F)) none a1 b1 hG (cst F W) (fun s hs => (cst_canon hF W_ok s hs).1) (by omega)
  have e1 : evS (evF fs WFU n) WFU (.for_ (.name 2) (.bvar 0) cS0) [some (.lst [enc F, enc G]), some (encs [W]), none, none, none, none] = .next [some (.lst [enc F, enc G]), some (encs (clsM F G)), some (enc G), none, a2, b2] := by
    rw [evS]
    show forLoop (cB0 (evF fs WFU n)) [enc F, enc G] _ = _
    rw [forLoop, h1]
    simp only []
    rw [forLoop, h2]
    rfl
  have hs := sorted_enc (l := clsM F G) fun x hx => (cls_canon hF hG x hx).2
  show finE [.bor] (evSs _ _ [.asg _ _, .for_ (.name 2) (.bvar 0) cS0, .ret (.bi .sorted [.var 1])] [some (.lst [enc F, enc G]), none, none, none, none, none]) = _
  rw [evSs, e0]
  simp only [SOut.then]
  rw [evSs, e1]
  have hs' : opB .sorted [encs (clsM F G)] = some (encs (sortR (clsM F G))) := hs
  simp [SOut.then, evSs, evS, evE, evEs, Out.bind, Out.toS, lift, gv, hs', finE, outsOf]
end K01
end -- K01EC

section -- K01ED
set_option Elab.async false
set_option linter.all false
set_option maxRecDepth 100000
set_option maxHeartbeats 4000000
namespace K01
open Ev K01M
theorem sub_encs {C : List RS} {i : Nat} {Y : RS} (h : C[i]? = some Y) : opSub (encs C) (iN i) = some (enc Y) := by
  unfold encs
  exact (sub_at (xs := C.map enc) (k := i) (by simp [h])).2
theorem l_class_of {n : Nat} (hn : 3 ≤ n) {C : List RS} (hl : C.length ≤ 100) {k : Nat} (hk : k < 97) {X : RS} (hX : X ∈ C) (hm : memR (k : Int) X = true) :
    ∃ i Y, evF fs WFU n 17 [encs C, .str [sg k]] = .ok (iN i) [] ∧ C[i]? = some Y ∧ memR (k : Int) Y = true := by
  obtain ⟨n, rfl⟩ := Nat.exists_eq_add_of_le' (show 1 ≤ n by omega)
  rw [cf_eq (g := f_class_of) rfl rfl]
  have hr := rng0 (m := C.length) (by omega)
  have hlen : opB .len [encs C] = some (.int (C.length : Int)) := by simp [opB, encs, lenD]
  let P : Nat → Bool := fun i => memR (k : Int) (C.getD i [])
  have a1 : evE (evF fs WFU n) (.comp (.var 2) (.name 2) (.rng [(.bi .len [(.bvar 0)])]) [(.call 13 [.bor, .bor] [(.sub (.bvar 0) (.var 2)), (.bvar 1)])] [2]) [some (encs C), some (.str [sg k]), none] = .ok (cI ((List.range C.length).filter P)) [some (encs C), some (.str [sg k]), none] := by
    refine (comp_map (ρ0 := [some (encs C), some (.str [sg k]), none]) (g := iN) (xs := List.range C.length) (f := fun i => if P i = true then some (iN i) else none) (x := .lst ((List.range C.length).map iN)) ?_ rfl fun i hi => ?_).trans ?_
    · exact e_rng (xs := [.int (C.length : Int)]) (by simp [evE, evEs, lift, gv, Out.bind, hlen]) hr
    · have hi := List.mem_range.mp hi
      have g1 : C[i]? = some (C.getD i []) := by rw [List.getD_eq_getElem?_getD, List.getElem?_eq_getElem hi]; rfl
      have s1 := sub_encs g1
      have h13 := l_has (n := n) (by omega) (C.getD i []) hk
      show stepC _ _ _ _ _ _ [some (encs C), some (.str [sg k]), none] = .ok (if memR (k : Int) (C.getD i []) = true then some (iN i) else none) [some (encs C), some (.str [sg k]), none]
      generalize C.getD i [] = Y at s1 h13 ⊢
      by_cases e : memR (k : Int) Y = true <;> simp [stepC, bindT, evAll, evE, evEs, Out.bind, lift, gv, wipeE, s1, h13, reread, putIO, truthD, e]
    · rw [fm_filter]; simp [restore, wipeE, gv, cI]
  obtain ⟨j, hj, hj2⟩ := List.mem_iff_getElem.mp hX
  have hjm : j ∈ (List.range C.length).filter P := by
    refine List.mem_filter.mpr ⟨List.mem_range.mpr hj, ?_⟩
    show memR (k : Int) (C.getD j []) = true
    rw [List.getD_eq_getElem?_getD, List.getElem?_eq_getElem hj, hj2]; exact hm
  cases e : (List.range C.length).filter P with
  | nil => rw [e] at hjm; simp at hjm
  | cons i r =>
    rw [e] at a1
    have hi : i ∈ (List.range C.length).filter P := by rw [e]; exact List.mem_cons_self
    obtain ⟨i1, i2⟩ := List.mem_filter.mp hi
    have i1 := List.mem_range.mp i1
    refine ⟨i, C.getD i [], ?_, by rw [List.getD_eq_getElem?_getD, List.getElem?_eq_getElem i1]; rfl, i2⟩
    have hs : opSub (cI (i :: r)) (.int 0) = some (iN i) := (sub_at (xs := (i :: r).map iN) (k := 0) rfl).2
    have key : ∀ x1 : E, evE (evF fs WFU n) x1 [some (encs C), some (.str [sg k]), none] = .ok (cI (i :: r)) [some (encs C), some (.str [sg k]), none] → finE [.bor, .bor] (evSs (evF fs WFU n) WFU [.ret (.sub x1 (.con (.int 0)))] [some (encs C), some (.str [sg k]), none]) = .ok (iN i) [] := fun x1 h1 => by
      simp [evSs, evS, evE, evEs, Out.bind, h1, hs, Out.toS, SOut.then, finE, outsOf, lift, gv]
    exact key _ a1
/-! ### the four parts -/
def part (F G : RS) (p : Bool × Bool) : RS := if p.2 then bo (if p.1 then bo W F else le W F) G else le (if p.1 then bo W F else le W F) G
theorem part_ok {F G : RS} (hF : Canon 0 F) (hG : Canon 0 G) (p : Bool × Bool) : Canon 0 (part F G p) ∧ ∀ c, memR c (part F G p) = (inW c && ((memR c F == p.1) && (memR c G == p.2))) := by
  obtain ⟨i, j⟩ := p
  have s1 : Canon 0 (if i then bo W F else le W F) ∧ ∀ c, memR c (if i then bo W F else le W F) = (inW c && (memR c F == i)) := by
    cases i with
    | true =>
      obtain ⟨h1, h2⟩ := bo_ok W_ok hF
      exact ⟨h1, fun c => by rw [if_pos rfl, h2, W_mem]; cases memR c F <;> rfl⟩
    | false =>
      obtain ⟨h1, h2⟩ := le_ok W_ok hF
      exact ⟨h1, fun c => by rw [if_neg Bool.false_ne_true, h2, W_mem]; cases memR c F <;> rfl⟩
  unfold part
  simp only []
  generalize (if i then bo W F else le W F) = s at s1 ⊢
  cases j with
  | true =>
    obtain ⟨h1, h2⟩ := bo_ok s1.1 hG
    exact ⟨h1, fun c => by rw [if_pos rfl, h2, s1.2]; cases inW c <;> cases memR c F <;> cases memR c G <;> cases i <;> rfl⟩
  | false =>
    obtain ⟨h1, h2⟩ := le_ok s1.1 hG
    exact ⟨h1, fun c => by rw [if_neg Bool.false_ne_true, h2, s1.2]; cases inW c <;> cases memR c F <;> cases memR c G <;> cases i <;> rfl⟩
theorem empty_of {X : RS} (h : Canon 0 X) (hm : ∀ c, memR c X = false) : X = [] := canon_uniq (b' := 0) h trivial fun c => by rw [hm]; rfl
theorem cst_nil {G : RS} (hG : Canon 0 G) : cst G [] = [] := by
  have h1 : bo [] G = [] := empty_of (bo_ok (xs := []) trivial hG).1 fun c => by rw [(bo_ok (xs := []) trivial hG).2]; rfl
  have h2 : le [] G = [] := empty_of (le_ok (xs := []) trivial hG).1 fun c => by rw [(le_ok (xs := []) trivial hG).2]; rfl
  unfold cst
  rw [h1, h2]; rfl
theorem cls_eq {F G : RS} (hG : Canon 0 G) : clsM F G = ([(true, true), (true, false), (false, true), (false, false)].map (part F G)).filter fun x => !x.isEmpty := by
  have hf : ∀ l : List RS, (l.filter fun x => !x.isEmpty).flatMap (cst G) = l.flatMap (cst G) := fun l => by
    induction l with
    | nil => rfl
    | cons x xs ih =>
      rw [List.filter_cons]
      cases x with
      | nil => simp [cst_nil hG, ih]
      | cons y ys => simp [ih]
  unfold clsM
  conv => lhs; rw [cst]
  rw [hf]
  simp only [List.flatMap_cons, List.flatMap_nil, List.append_nil, List.map_cons, List.map_nil]
  unfold cst
  rw [← List.filter_append]
  rfl
theorem nonempty_iff {X : RS} (h : Canon 0 X) : X.isEmpty = false ↔ ∃ k : Nat, k < 97 ∧ memR (k : Int) X = true := by
  cases X with
  | nil => simp [memR]
  | cons p r =>
    obtain ⟨c1, c2, c3, c4⟩ := h
    refine ⟨fun _ => ⟨p.1.toNat, by omega, ?_⟩, fun _ => rfl⟩
    have : ((p.1.toNat : Nat) : Int) = p.1 := by omega
    rw [this]
    unfold memR; simp [c2]
def nmB (F G : RS) (k : Nat) : Bool × Bool := (memR (k : Int) F, memR (k : Int) G)
def encB (p : Bool × Bool) : D := .tup [.int (if p.1 then 1 else 0), .int (if p.2 then 1 else 0)]
def knd (F G : RS) : List (Bool × Bool) := [(false, false), (false, true), (true, false), (true, true)].filter fun p => decide (p ∈ (List.range 97).map (nmB F G))
theorem part_knd {F G : RS} (hF : Canon 0 F) (hG : Canon 0 G) (p : Bool × Bool) : (!(part F G p).isEmpty) = decide (p ∈ (List.range 97).map (nmB F G)) := by
  obtain ⟨h1, h2⟩ := part_ok hF hG p
  have := nonempty_iff h1
  rw [Bool.eq_iff_iff, decide_eq_true_eq, Bool.not_eq_true', this, List.mem_map]
  constructor
  · rintro ⟨k, hk, hm⟩
    rw [h2] at hm
    simp at hm
    exact ⟨k, List.mem_range.mpr hk, by obtain ⟨i, j⟩ := p; simp [nmB, hm.2.1, hm.2.2]⟩
  · rintro ⟨k, hk, e⟩
    have hk := List.mem_range.mp hk
    refine ⟨k, hk, ?_⟩
    rw [h2, ← e]
    simp [nmB, inW]
    omega
theorem cls_len {F G : RS} (hF : Canon 0 F) (hG : Canon 0 G) : (clsM F G).length = (knd F G).length := by
  rw [cls_eq hG]
  unfold knd
  simp only [← part_knd hF hG, List.map_cons, List.map_nil]
  cases e1 : (part F G (true, true)).isEmpty <;> cases e2 : (part F G (true, false)).isEmpty <;> cases e3 : (part F G (false, true)).isEmpty <;> cases e4 : (part F G (false, false)).isEmpty <;> simp [List.filter_cons, e1, e2, e3, e4]
theorem cls_part {F G : RS} (hG : Canon 0 G) {x : RS} (hx : x ∈ clsM F G) : ∃ p, x = part F G p ∧ x ≠ [] := by
  rw [cls_eq hG] at hx
  obtain ⟨h1, h2⟩ := List.mem_filter.mp hx
  obtain ⟨p, _, e⟩ := List.mem_map.mp h1
  exact ⟨p, e.symm, fun z => by subst z; simp at h2⟩
/-- the numbers of a part are those of its name -/
theorem cod_part {F G : RS} (hF : Canon 0 F) (hG : Canon 0 G) (p : Bool × Bool) : cod (part F G p) = (List.range 97).filter fun k => decide (nmB F G k = p) := by
  unfold cod
  refine List.filter_congr fun k hk => ?_
  have hk := List.mem_range.mp hk
  rw [(part_ok hF hG p).2]
  have : inW (k : Int) = true := by simp [inW]; omega
  rw [this, Bool.eq_iff_iff]
  obtain ⟨i, j⟩ := p
  simp [nmB]
theorem same_part {F G : RS} (hF : Canon 0 F) (hG : Canon 0 G) {p q : Bool × Bool} {k : Nat} (h1 : memR (k : Int) (part F G p) = true) (h2 : memR (k : Int) (part F G q) = true) : p = q := by
  rw [(part_ok hF hG p).2] at h1
  rw [(part_ok hF hG q).2] at h2
  simp at h1 h2
  obtain ⟨i, j⟩ := p
  obtain ⟨i', j'⟩ := q
  simp at h1 h2
  rw [← h1.2.1, ← h1.2.2, ← h2.2.1, ← h2.2.2]
end K01
end -- K01ED

section -- K01EE
set_option Elab.async false
set_option linter.all false
set_option maxRecDepth 100000
set_option maxHeartbeats 4000000
namespace K01
open Ev K01M
def st0 : S := (.asgO 1 (.lst [(.bi .list [(.bvar 0)]), (.con (.int 0)), (.con (.int 0)), (.con (.int 1))]))
def st1 : S := (.par [15, 16] [(.call 21 [.io] [(.bvar 1)]), (.call 21 [.io] [(.bvar 1)])])
def st2 : S := (.par [17, 18] [(.call 6 [.bor] [(.var 15)]), (.call 6 [.bor] [(.var 16)])])
def st3 : S := (.asg (.tup [(.name 19), (.name 20), (.name 21)]) (.tup [(.call 22 [.bor] [(.var 15)]), (.call 22 [.bor] [(.var 16)]), (.bi .list [(.rng [(.con (.int 97))])])]))
def st4 : S := (.ite (.orL [(.not_ (.call 2 [.bor] [(.var 17)])), (.not_ (.call 2 [.bor] [(.var 18)])), (.cmp .ne (.call 22 [.bor] [(.var 17)]) (.var 19)), (.cmp .ne (.var 17) (.call 6 [.bor] [(.rev (.var 15))]))]) [(.ret (.con (.bl false)))] [])
def st5 : S := (.asg (.name 2) (.lst [(.call 9 [.bor, .bor] [(.var 17), (.var 18)]), (.call 11 [.bor, .bor] [(.var 17), (.var 18)]), (.call 12 [.bor, .bor] [(.var 17), (.var 18)]), (.call 10 [.bor] [(.var 17)])]))
def st6 : S := (.asg (.name 3) (.lst [(.comp (.var 24) (.name 24) (.var 21) [(.orL [(.cmp .in_ (.var 24) (.var 19)), (.cmp .in_ (.var 24) (.var 20))])] [24]), (.comp (.var 24) (.name 24) (.var 19) [(.cmp .in_ (.var 24) (.var 20))] [24]), (.comp (.var 24) (.name 24) (.var 19) [(.cmp .notin (.var 24) (.var 20))] [24]), (.comp (.var 24) (.name 24) (.var 21) [(.cmp .notin (.var 24) (.var 19))] [24])]))
def st7 : S := (.ite (.cmp .ne (.comp (.var 24) (.name 24) (.rng [(.con (.int 4))]) [(.orL [(.cmp .isnot (.call 2 [.bor] [(.sub (.var 2) (.var 24))]) (.con (.bl true))), (.cmp .ne (.call 22 [.bor] [(.sub (.var 2) (.var 24))]) (.sub (.var 3) (.var 24)))])] [24]) (.lst [])) [(.ret (.con (.bl false)))] [])
def st8 : S := (.asg (.name 2) (.lst [(.call 14 [.bor] [(.var 17)]), (.call 14 [.bor] [(.call 10 [.bor] [(.var 17)])]), (.call 15 [.bor] [(.var 17)]), (.call 8 [] []), (.bin .add (.slice (.glob g_SIGNS) (.con .non) (.con (.int 7))) (.slice (.glob g_SIGNS) (.con (.int 8)) (.con .non))), (.glob g_LAST)]))
def st9 : S := (.asg (.name 4) (.con (.str [9, 10, 32, 33, 34, 35, 36, 38, 39, 40, 41, 42, 43, 44, 45, 46, 47, 48, 49, 50, 51, 52, 53, 54, 55, 56, 57, 58, 59, 60, 61, 62, 63, 64, 65, 66, 67, 68, 69, 70, 71, 72, 73, 74, 75, 76, 77, 78, 79, 80, 81, 82, 83, 84, 85, 86, 87, 88, 89, 90, 91, 92, 93, 94, 95, 96, 97, 98, 99, 100, 101, 102, 103, 104, 105, 106, 107, 108, 109, 110, 111, 112, 113, 114, 115, 116, 117, 118, 119, 120, 121, 122, 123, 124, 125, 126])))
def st10 : S := (.ite (.orL [(.not_ (.call 19 [.bor, .bor] [(.var 2), (.lst [(.bi .len [(.var 19)]), (.bin .sub (.con (.int 97)) (.bi .len [(.var 19)])), (.call 23 [.bor] [(.var 19)]), (.tup [(.tup [(.con (.int 0)), (.con (.int 96))])]), (.var 4), (.con (.int 96))])])), (.cmp .ne (.bi .ord [(.sub (.glob g_SIGNS) (.con (.int 7)))]) (.con (.int 37)))]) [(.ret (.con (.bl false)))] [])
def st11 : S := (.asg (.name 5) (.call 18 [.io, .bor] [(.bvar 1), (.con (.int 97))]))
def st12 : S := (.asg (.name 6) (.sub (.call 20 [] []) (.var 5)))
def st13 : S := (.asg (.name 7) (.meth .join (.con (.str [])) [(.comp (.sub (.call 20 [] []) (.call 18 [.io, .bor] [(.bvar 1), (.con (.int 97))])) (.name 24) (.rng [(.call 18 [.io, .bor] [(.bvar 1), (.con (.int 6))])]) [] [24])]))
def st14 : S := (.asg (.name 8) (.bi .sorted [(.comp (.meth .find (.call 20 [] []) [(.sub (.var 7) (.var 24))]) (.name 24) (.rng [(.bi .len [(.var 7)])]) [(.cmp .notin (.sub (.var 7) (.var 24)) (.slice (.var 7) (.con .non) (.var 24)))] [24])]))
def st15 : S := (.ite (.not_ (.call 19 [.bor, .bor] [(.lst [(.call 13 [.bor, .bor] [(.var 17), (.var 6)]), (.call 4 [.bor] [(.var 6)]), (.call 5 [.bor] [(.var 5)]), (.call 3 [.bor] [(.var 7)]), (.call 22 [.bor] [(.call 7 [.bor] [(.var 7)])])]), (.lst [(.cmp .in_ (.var 5) (.var 19)), (.var 5), (.var 6), (.con (.bl true)), (.var 8)])])) [(.ret (.con (.bl false)))] [])
def st16 : S := (.ite (.orL [(.cmp .isnot (.call 2 [.bor] [(.call 7 [.bor] [(.var 7)])]) (.con (.bl true))), (.cmp .ne (.comp (.var 25) (.name 25) (.tup [(.con .non), (.con (.int 1)), (.lst [(.var 7)]), (.tup [(.var 7)])]) [(.cmp .isnot (.call 3 [.bor] [(.var 25)]) (.con (.bl false)))] [25]) (.lst []))]) [(.ret (.con (.bl false)))] [])
def st17 : S := (.asg (.name 9) (.call 16 [.bor] [(.lst [(.var 17), (.var 18)])]))
def st18 : S := (.asg (.name 10) (.comp (.tup [(.bi .int [(.cmp .in_ (.var 24) (.var 19))]), (.bi .int [(.cmp .in_ (.var 24) (.var 20))])]) (.name 24) (.var 21) [] [24]))
def st19 : S := (.asg (.name 11) (.comp (.var 23) (.name 23) (.tup [(.tup [(.con (.int 0)), (.con (.int 0))]), (.tup [(.con (.int 0)), (.con (.int 1))]), (.tup [(.con (.int 1)), (.con (.int 0))]), (.tup [(.con (.int 1)), (.con (.int 1))])]) [(.cmp .in_ (.var 23) (.var 10))] [23]))
def st20 : S := (.ite (.orL [(.cmp .ne (.bi .sorted [(.var 9)]) (.var 9)), (.cmp .ne (.bi .len [(.var 9)]) (.bi .len [(.var 11)]))]) [(.ret (.con (.bl false)))] [])
def st21 : S := (.for_ (.name 12) (.var 9) [(.asg (.name 22) (.call 22 [.bor] [(.var 12)])), (.asg (.name 23) (.sub (.var 10) (.sub (.var 22) (.con (.int 0))))), (.ite (.orL [(.not_ (.call 2 [.bor] [(.var 12)])), (.cmp .ne (.var 22) (.comp (.var 24) (.name 24) (.var 21) [(.cmp .eq (.sub (.var 10) (.var 24)) (.var 23))] [24])), (.cmp .ne (.sub (.var 9) (.call 17 [.bor, .bor] [(.var 9), (.sub (.call 20 [] []) (.sub (.var 22) (.con (.int 0))))])) (.var 12))]) [(.ret (.con (.bl false)))] [])])
def st22 : S := (.asg (.name 13) (.call 18 [.io, .bor] [(.bvar 1), (.con (.int 50))]))
def st23 : S := (.asg (.name 14) (.lst [(.tup [(.var 13), (.var 13)]), (.tup [(.var 13), (.bin .add (.var 13) (.con (.int 1)))]), (.tup [(.bin .add (.var 13) (.con (.int 1))), (.var 13)]), (.tup [(.var 13)]), (.lst [(.var 13), (.var 13)]), (.con .non), (.tup [(.con (.bl true)), (.con (.int 2))]), (.tup [(.var 13), (.con (.int 97))]), (.tup [(.neg (.con (.int 1))), (.var 13)])]))
def st24 : S := (.ite (.not_ (.call 19 [.bor, .bor] [(.comp (.call 1 [.bor] [(.var 25)]) (.name 25) (.var 14) [] [25]), (.bin .add (.lst [(.con (.bl true)), (.con (.bl true))]) (.bin .mul (.lst [(.con (.bl false))]) (.con (.int 7))))])) [(.ret (.con (.bl false)))] [])
def st25 : S := (.asg (.name 14) (.lst [(.var 17), (.bi .list [(.var 17)]), (.tup [(.tup [(.con (.int 1)), (.con (.int 2))]), (.tup [(.con (.int 4)), (.con (.int 5))])]), (.tup [(.tup [(.con (.int 1)), (.con (.int 2))]), (.tup [(.con (.int 3)), (.con (.int 5))])]), (.tup [(.tup [(.con (.int 4)), (.con (.int 5))]), (.tup [(.con (.int 1)), (.con (.int 2))])]), (.tup [(.tup [(.con (.int 2)), (.con (.int 1))])]), (.tup [(.con .non)]), (.con .non), (.tup [(.tup [(.con (.int 1)), (.con (.int 3))]), (.tup [(.con (.int 2)), (.con (.int 5))])])]))
def st26 : S := (.ite (.not_ (.call 19 [.bor, .bor] [(.comp (.call 2 [.bor] [(.var 25)]) (.name 25) (.var 14) [] [25]), (.bin .add (.lst [(.con (.bl true)), (.con (.bl false)), (.con (.bl true))]) (.bin .mul (.lst [(.con (.bl false))]) (.con (.int 6))))])) [(.ret (.con (.bl false)))] [])
def st27 : S := (.ret (.call 19 [.bor, .bor] [(.comp (.call 0 [.bor] [(.var 25)]) (.name 25) (.lst [(.con (.int 0)), (.con (.int 7)), (.neg (.con (.int 1))), (.con (.bl true)), (.con .non), (.con (.str [49]))]) [] [25]), (.bin .add (.lst [(.con (.bl true)), (.con (.bl true))]) (.bin .mul (.lst [(.con (.bl false))]) (.con (.int 4))))]))
theorem st_eq : f_law.body = [st0, st1, st2, st3, st4, st5, st6, st7, st8, st9, st10, st11, st12, st13, st14, st15, st16, st17, st18, st19, st20, st21, st22, st23, st24, st25, st26, st27] := rfl
/-! ### names by number -/
theorem gv_ne {ρ : Env} {i j : Nat} {x : Option D} (h : i ≠ j) : gv (ρ.set i x) j = gv ρ j := by
  unfold gv; rw [List.getElem?_set_ne h]
theorem gv_eq {ρ : Env} {i : Nat} {x : Option D} (h : i < ρ.length) : gv (ρ.set i x) i = x := by
  unfold gv; rw [List.getElem?_set_self h]
theorem set_gv {ρ : Env} {i : Nat} (h : i < ρ.length) : (ρ.set i none).set i (gv ρ i) = ρ := by
  rw [List.set_set]
  unfold gv
  rw [List.getElem?_eq_getElem h]
  exact List.set_getElem_self h
theorem comp1 {α : Type} {c : CF} {elt it : E} {i : Nat} {ifs : List E} {ρ ρ1 : Env} {x : D} {g h : α → D} {p : α → Bool} {xs : List α} (hi : i < ρ1.length)
    (h1 : evE c it ρ = .ok x ρ1) (hx : itemsD x = some (xs.map g)) (h2 : ∀ y ∈ xs, evAll c ifs (ρ1.set i (some (g y))) = .ok (p y) (ρ1.set i (some (g y))))
    (h3 : ∀ y ∈ xs, p y = true → evE c elt (ρ1.set i (some (g y))) = .ok (h y) (ρ1.set i (some (g y)))) :
    evE c (.comp elt (.name i) it ifs [i]) ρ = .ok (.lst ((xs.filter p).map h)) ρ1 := by
  refine (comp_map (ρ0 := ρ1) (g := g) (xs := xs) (f := fun y => if p y = true then some (h y) else none) h1 hx fun y hy => ?_).trans ?_
  · have a2 := h2 y hy
    show stepC c elt (.name i) ifs [i] (g y) (ρ1.set i none) = .ok _ (ρ1.set i none)
    unfold stepC
    simp only [bindT, List.set_set]
    rw [a2]
    cases e : p y with
    | true =>
      simp only []
      rw [h3 y hy e]
      simp [wipeE]
    | false => simp [wipeE]
  · rw [fm_filter]
    show Out.ok _ ((ρ1.set i none).set i (gv ρ1 i)) = _
    rw [set_gv hi]
theorem e_var {c : CF} {ρ : Env} {i : Nat} {d : D} (h : gv ρ i = some d) : evE c (.var i) ρ = .ok d ρ := by rw [evE, h]; rfl
theorem e_bvar {c : CF} {ρ : Env} {i : Nat} {d : D} (h : gv ρ i = some d) : evE c (.bvar i) ρ = .ok d ρ := by rw [evE, h]; rfl
end K01
end -- K01EE

section -- K01EF
set_option Elab.async false
set_option linter.all false
set_option maxRecDepth 100000
set_option maxHeartbeats 4000000
namespace K01
open Ev K01M
theorem s_skip {c : CF} {e : E} {a : List S} {ρ : Env} (h : evE c e ρ = .ok (.bl false) ρ) : evS c WFU (.ite e a []) ρ = .next ρ := by
  simp [evS, testE, h, Out.bind, Out.toS, lift, truthD, evSs]
theorem s0 {c : CF} (ns : List Int) : evS c WFU st0 (startE 26 [.lst (ns.map .int)]) = .next ((startE 26 [.lst (ns.map .int)]).set 1 (some (TP ns 0 0 1))) := by
  have h : opB .list [.lst (ns.map .int)] = some (.lst (ns.map .int)) := rfl
  have h0 : gv (startE 26 [.lst (ns.map .int)]) 0 = some (.lst (ns.map .int)) := rfl
  generalize startE 26 [.lst (ns.map .int)] = ρ at h0 ⊢
  simp [st0, evS, evE, evEs, Out.bind, Out.toS, lift, h0, h, isMut, TP]
theorem s1 {n : Nat} (hn : 10 ≤ n) {ρ : Env} (hl : ρ.length = 26) {sc : List Int} {t : D} (h1 : gv ρ 1 = some t) (ht : IsTape sc t) : ∃ A B t', evS (evF fs WFU n) WFU st1 ρ = .next (((ρ.set 1 (some t')).set 15 (some (encl A))).set 16 (some (encl B))) ∧ IsTape sc t' ∧ (∀ p ∈ A, In p) ∧ A.length ≤ 4 ∧ (∀ p ∈ B, In p) ∧ B.length ≤ 4 := by
  obtain ⟨A, t1, a1, ht1, ha, hal⟩ := l_ranges (n := n) (by omega) ht
  obtain ⟨B, t2, b1, ht2, hb, hbl⟩ := l_ranges (n := n) (by omega) ht1
  refine ⟨A, B, t2, ?_, ht2, ha, hal, hb, hbl⟩
  have h2 : gv (ρ.set 1 (some t1)) 1 = some t1 := gv_eq (by omega)
  simp [st1, evS, evE, evEs, Out.bind, Out.toS, lift, reread, putIO, h1, a1, h2, b1, putAll]
theorem s2 {n : Nat} (hn : 10 ≤ n) {ρ : Env} {A B : RS} (hal : A.length ≤ 4) (hbl : B.length ≤ 4) (h1 : gv ρ 15 = some (encl A)) (h2 : gv ρ 16 = some (encl B)) : evS (evF fs WFU n) WFU st2 ρ = .next ((ρ.set 17 (some (enc (sb A)))).set 18 (some (enc (sb B)))) := by
  have a1 := l_signs_by (n := n) (by omega) A (encl A) rfl (by omega)
  have b1 := l_signs_by (n := n) (by omega) B (encl B) rfl (by omega)
  simp [st2, evS, evE, evEs, Out.bind, Out.toS, lift, reread, putIO, h1, a1, h2, b1, putAll]
theorem rng97 {c : CF} {ρ : Env} : evE c (.rng [(.con (.int 97))]) ρ = .ok (cI (List.range 97)) ρ := e_rng (xs := [.int 97]) (by simp [evEs, evE, Out.bind]) (rng0 (m := 97) (by omega))
theorem s3 {n : Nat} (hn : 10 ≤ n) {ρ : Env} {A B : RS} (h1 : gv ρ 15 = some (encl A)) (h2 : gv ρ 16 = some (encl B)) : evS (evF fs WFU n) WFU st3 ρ = .next (((ρ.set 19 (some (cI (cod A)))).set 20 (some (cI (cod B)))).set 21 (some (cI (List.range 97)))) := by
  have a1 := l_codes (n := n) (by omega) A (encl A) rfl
  have b1 := l_codes (n := n) (by omega) B (encl B) rfl
  have h3 : opB .list [cI (List.range 97)] = some (cI (List.range 97)) := rfl
  have hr : evE (evF fs WFU n) (.rng [(.con (.int 97))]) ρ = .ok (cI (List.range 97)) ρ := rng97
  unfold st3
  generalize E.rng _ = x1 at hr ⊢
  simp [evS, evE, evEs, Out.bind, Out.toS, lift, reread, putIO, h1, a1, h2, b1, hr, h3, bindT, bindTs]
theorem s4 {n : Nat} (hn : 10 ≤ n) {ρ : Env} {A B : RS} (hA : ∀ p ∈ A, In p) (hB : ∀ p ∈ B, In p) (hal : A.length ≤ 4) (h15 : gv ρ 15 = some (encl A)) (h17 : gv ρ 17 = some (enc (sb A))) (h18 : gv ρ 18 = some (enc (sb B))) (h19 : gv ρ 19 = some (cI (cod A))) : evS (evF fs WFU n) WFU st4 ρ = .next ρ := by
  obtain ⟨ca, ma⟩ := sb_ok hA
  obtain ⟨cb, mb⟩ := sb_ok hB
  have a1 := l_is_signs (n := n) (by omega) ca
  have b1 := l_is_signs (n := n) (by omega) cb
  have c1 := l_codes (n := n) (by omega) (sb A) (enc (sb A)) rfl
  have e1 : cod (sb A) = cod A := cod_congr ma
  have hrv : opRev (encl A) = some (encl A.reverse) := by simp [opRev, encl]
  have d1 := l_signs_by (n := n) (by omega) A.reverse (encl A.reverse) rfl (by simp; omega)
  have e2 : sb A.reverse = sb A := by
    obtain ⟨cr, mr⟩ := sb_ok (rs := A.reverse) fun p hp => hA p (List.mem_reverse.mp hp)
    exact canon_uniq cr ca fun c => by rw [mr, ma]; exact memR_congr (fun p => List.mem_reverse) c
  have n1 : opCmp .ne (cI (cod (sb A))) (cI (cod A)) = some false := by
    rw [e1]; show (opEq _ _).map (!·) = _; rw [opEq_cI]; simp
  have n2 : opCmp .ne (enc (sb A)) (enc (sb A.reverse)) = some false := by
    rw [e2]; show (opEq _ _).map (!·) = _; rw [opEq_enc]; simp
  refine s_skip ?_
  simp [evE, evEs, evOr, Out.bind, Out.toS, lift, reread, putIO, h15, h17, h18, h19, a1, b1, c1, n1, hrv, d1, n2, truthD]
theorem s5 {n : Nat} (hn : 10 ≤ n) {ρ : Env} {F G : RS} (hF : Canon 0 F) (hG : Canon 0 G) (h17 : gv ρ 17 = some (enc F)) (h18 : gv ρ 18 = some (enc G)) : evS (evF fs WFU n) WFU st5 ρ = .next (ρ.set 2 (some (.lst [enc (un F G), enc (bo F G), enc (le F G), enc (oth F)]))) := by
  have a1 := l_union (n := n) (by omega) hF hG
  have a2 := l_both (n := n) (by omega) hF hG
  have a3 := l_less (n := n) (by omega) hF hG
  have a4 := l_other (n := n) (by omega) hF
  simp [st5, evS, evE, evEs, Out.bind, Out.toS, lift, reread, putIO, h17, h18, a1, a2, a3, a4, bindT]
theorem in_cI (k : Nat) (l : List Nat) : opCmp .in_ (iN k) (cI l) = some (decide (k ∈ l)) := opIn_cI k l
theorem notin_cI (k : Nat) (l : List Nat) : opCmp .notin (iN k) (cI l) = some (!decide (k ∈ l)) := by show (opIn _ _).map (!·) = _; rw [opIn_cI]; rfl
theorem cI_filter (l : List Nat) (p : Nat → Bool) : (.lst ((l.filter p).map iN) : D) = cI (l.filter p) := rfl
theorem s6 {n : Nat} {ρ : Env} (hl : ρ.length = 26) {a b w : List Nat} (h19 : gv ρ 19 = some (cI a)) (h20 : gv ρ 20 = some (cI b)) (h21 : gv ρ 21 = some (cI w)) :
    evS (evF fs WFU n) WFU st6 ρ = .next (ρ.set 3 (some (.lst [cI (w.filter fun k => decide (k ∈ a) || decide (k ∈ b)), cI (a.filter fun k => decide (k ∈ b)), cI (a.filter fun k => !decide (k ∈ b)), cI (w.filter fun k => !decide (k ∈ a))]))) := by
  have g : ∀ (x : Option D), gv (ρ.set 24 x) 24 = x := fun x => gv_eq (by omega)
  have g19 : ∀ (x : Option D), gv (ρ.set 24 x) 19 = some (cI a) := fun x => by rw [gv_ne (by omega), h19]
  have g20 : ∀ (x : Option D), gv (ρ.set 24 x) 20 = some (cI b) := fun x => by rw [gv_ne (by omega), h20]
  have c1 : evE (evF fs WFU n) (.comp (.var 24) (.name 24) (.var 21) [(.orL [(.cmp .in_ (.var 24) (.var 19)), (.cmp .in_ (.var 24) (.var 20))])] [24]) ρ = .ok (cI (w.filter fun k => decide (k ∈ a) || decide (k ∈ b))) ρ :=
    comp1 (g := iN) (xs := w) (h := iN) (by omega) (e_var h21) rfl (fun y _ => by
      by_cases e1 : y ∈ a <;> by_cases e2 : y ∈ b <;> simp [evAll, evOr, evE, evEs, Out.bind, lift, g, g19, g20, in_cI, e1, e2, truthD]) (fun y _ _ => e_var (g _))
  have c2 : evE (evF fs WFU n) (.comp (.var 24) (.name 24) (.var 19) [(.cmp .in_ (.var 24) (.var 20))] [24]) ρ = .ok (cI (a.filter fun k => decide (k ∈ b))) ρ :=
    comp1 (g := iN) (xs := a) (h := iN) (by omega) (e_var h19) rfl (fun y _ => by
      by_cases e2 : y ∈ b <;> simp [evAll, evOr, evE, evEs, Out.bind, lift, g, g19, g20, in_cI, e2, truthD]) (fun y _ _ => e_var (g _))
  have c3 : evE (evF fs WFU n) (.comp (.var 24) (.name 24) (.var 19) [(.cmp .notin (.var 24) (.var 20))] [24]) ρ = .ok (cI (a.filter fun k => !decide (k ∈ b))) ρ :=
    comp1 (g := iN) (xs := a) (h := iN) (by omega) (e_var h19) rfl (fun y _ => by
      by_cases e2 : y ∈ b <;> simp [evAll, evOr, evE, evEs, Out.bind, lift, g, g19, g20, notin_cI, e2, truthD]) (fun y _ _ => e_var (g _))
  have c4 : evE (evF fs WFU n) (.comp (.var 24) (.name 24) (.var 21) [(.cmp .notin (.var 24) (.var 19))] [24]) ρ = .ok (cI (w.filter fun k => !decide (k ∈ a))) ρ :=
    comp1 (g := iN) (xs := w) (h := iN) (by omega) (e_var h21) rfl (fun y _ => by
      by_cases e2 : y ∈ a <;> simp [evAll, evOr, evE, evEs, Out.bind, lift, g, g19, g20, notin_cI, e2, truthD]) (fun y _ _ => e_var (g _))
  simp only [st6, evS, Out.toS]
  rw [evE]
  simp only [evEs, c1, c2, c3, c4, Out.bind, bindT]
end K01
end -- K01EF

section -- K01EG
set_option Elab.async false
set_option linter.all false
set_option maxRecDepth 100000
set_option maxHeartbeats 4000000
namespace K01
open Ev K01M
theorem due1 {F G : RS} (hF : Canon 0 F) (hG : Canon 0 G) : (List.range 97).filter (fun k => decide (k ∈ cod F) || decide (k ∈ cod G)) = cod (un F G) := by
  unfold cod
  refine List.filter_congr fun k hk => ?_
  rw [(un_ok hF hG).2, Bool.eq_iff_iff]
  have := List.mem_range.mp hk
  simp [List.mem_filter, this]
theorem due2 {F G : RS} (hF : Canon 0 F) (hG : Canon 0 G) : (cod F).filter (fun k => decide (k ∈ cod G)) = cod (bo F G) := by
  conv => lhs; unfold cod
  rw [List.filter_filter]
  show _ = (List.range 97).filter _
  refine List.filter_congr fun k hk => ?_
  rw [(bo_ok hF hG).2, Bool.eq_iff_iff]
  have := List.mem_range.mp hk
  simp [List.mem_filter, this, and_comm]
theorem due3 {F G : RS} (hF : Canon 0 F) (hG : Canon 0 G) : (cod F).filter (fun k => !decide (k ∈ cod G)) = cod (le F G) := by
  conv => lhs; unfold cod
  rw [List.filter_filter]
  show _ = (List.range 97).filter _
  refine List.filter_congr fun k hk => ?_
  rw [(le_ok hF hG).2, Bool.eq_iff_iff]
  have := List.mem_range.mp hk
  simp [List.mem_filter, this, and_comm]
theorem due4 {F : RS} (hF : Canon 0 F) : (List.range 97).filter (fun k => !decide (k ∈ cod F)) = cod (oth F) := by
  conv => rhs; unfold cod
  refine List.filter_congr fun k hk => ?_
  rw [(oth_ok hF).2, Bool.eq_iff_iff]
  have := List.mem_range.mp hk
  simp [List.mem_filter, this, cod, inW]
  omega
theorem s7 {n : Nat} (hn : 10 ≤ n) {ρ : Env} (hl : ρ.length = 26) {Xs : List RS} (hX : ∀ x ∈ Xs, Canon 0 x) (h4 : Xs.length = 4) (h2 : gv ρ 2 = some (encs Xs)) (h3 : gv ρ 3 = some (.lst (Xs.map fun x => cI (cod x)))) : evS (evF fs WFU n) WFU st7 ρ = .next ρ := by
  have g : ∀ (x : Option D), gv (ρ.set 24 x) 24 = x := fun x => gv_eq (by omega)
  have g2 : ∀ (x : Option D), gv (ρ.set 24 x) 2 = some (encs Xs) := fun x => by rw [gv_ne (by omega), h2]
  have g3 : ∀ (x : Option D), gv (ρ.set 24 x) 3 = some (.lst (Xs.map fun x => cI (cod x))) := fun x => by rw [gv_ne (by omega), h3]
  have hr : evE (evF fs WFU n) (.rng [(.con (.int 4))]) ρ = .ok (cI (List.range 4)) ρ := e_rng (xs := [.int 4]) (by simp [evEs, evE, Out.bind]) (rng0 (m := 4) (by omega))
  have c1 : evE (evF fs WFU n) (.comp (.var 24) (.name 24) (.rng [(.con (.int 4))]) [(.orL [(.cmp .isnot (.call 2 [.bor] [(.sub (.var 2) (.var 24))]) (.con (.bl true))), (.cmp .ne (.call 22 [.bor] [(.sub (.var 2) (.var 24))]) (.sub (.var 3) (.var 24)))])] [24]) ρ = .ok (.lst (((List.range 4).filter fun _ => false).map iN)) ρ :=
    comp1 (g := iN) (xs := List.range 4) (h := iN) (by omega) hr rfl (fun y hy => by
      have hy := List.mem_range.mp hy
      have hlt : y < Xs.length := by omega
      have gx : Xs[y]? = some Xs[y] := List.getElem?_eq_getElem hlt
      have s1 := sub_encs gx
      have hc := hX _ (List.getElem_mem hlt)
      have s2 : opSub (.lst (Xs.map fun x => cI (cod x))) (iN y) = some (cI (cod Xs[y])) := (sub_at (xs := Xs.map fun x => cI (cod x)) (k := y) (by simp [gx])).2
      have a1 := l_is_signs (n := n) (by omega) hc
      have a2 := l_codes (n := n) (by omega) Xs[y] (enc Xs[y]) rfl
      have i1 : opCmp .isnot (.bl true) (.bl true) = some false := rfl
      have n1 : opCmp .ne (cI (cod Xs[y])) (cI (cod Xs[y])) = some false := by show (opEq _ _).map (!·) = _; rw [opEq_cI]; simp
      generalize Xs[y] = Y at s1 s2 a1 a2 n1
      simp [evAll, evOr, evE, evEs, Out.bind, lift, reread, putIO, g, g2, g3, s1, s2, a1, a2, i1, n1, truthD]) (fun y _ _ => e_var (g _))
  have hne : opCmp .ne (.lst (((List.range 4).filter fun _ => false).map iN)) (.lst []) = some false := rfl
  refine s_skip ?_
  rw [evE, c1]
  simp only [Out.bind]
  rw [show evE (evF fs WFU n) (.lst []) ρ = .ok (.lst []) ρ from rfl]
  simp only [hne]
  rfl
def PL : List Nat := match (st9) with
  | .asg _ (.con (.str s)) => s
  | _ => []
theorem s8 {n : Nat} (hn : 10 ≤ n) {ρ : Env} {F : RS} (hF : Canon 0 F) (h17 : gv ρ 17 = some (enc F)) : evS (evF fs WFU n) WFU st8 ρ = .next (ρ.set 2 (some (.lst [.int (sumR F), .int (sumR (oth F)), leastM F, enc [(0, 96)], .str PL, .int 96]))) := by
  have a1 := l_count (n := n) (by omega) F
  have a2 := l_other (n := n) (by omega) hF
  have a3 := l_count (n := n) (by omega) (oth F)
  have a4 := l_least (n := n) (by omega) hF
  have a5 := l_every (n := n) (by omega)
  have p : evE (evF fs WFU n) (.bin .add (.slice (.glob g_SIGNS) (.con .non) (.con (.int 7))) (.slice (.glob g_SIGNS) (.con (.int 8)) (.con .non))) ρ = .ok (.str PL) ρ := by rfl
  unfold st8
  generalize E.bin .add (.slice (.glob g_SIGNS) (.con .non) (.con (.int 7))) (.slice (.glob g_SIGNS) (.con (.int 8)) (.con .non)) = x1 at p ⊢
  simp [evS, evE, evEs, Out.bind, Out.toS, lift, reread, putIO, h17, a1, a2, a3, a4, a5, p, bindT, g_LAST]
theorem s9 {c : CF} {ρ : Env} : evS c WFU st9 ρ = .next (ρ.set 4 (some (.str PL))) := rfl
theorem cod_oth {F : RS} (hF : Canon 0 F) : ((cod (oth F)).length : Int) = 97 - (cod F).length := by
  have := filter_or (f := fun k : Nat => memR (k : Int) F) (g := fun k : Nat => !memR (k : Int) F) (fun k hk => by simp [hk]) (List.range 97)
  have e1 : ((List.range 97).filter fun k : Nat => memR (k : Int) F || !memR (k : Int) F) = List.range 97 := by
    refine List.filter_eq_self.mpr fun k _ => by cases memR (k : Int) F <;> rfl
  rw [e1] at this
  have e2 : (List.range 97).filter (fun k : Nat => !memR (k : Int) F) = cod (oth F) := by
    unfold cod
    refine List.filter_congr fun k hk => ?_
    have := List.mem_range.mp hk
    rw [(oth_ok hF).2]
    have : inW (k : Int) = true := by simp [inW]; omega
    rw [this]; rfl
  rw [e2] at this
  have e3 : (List.range 97).filter (fun k : Nat => memR (k : Int) F) = cod F := rfl
  rw [e3] at this
  simp only [List.length_range] at this
  omega
theorem okS_strD (o : Option Nat) : okS (strD o) = true ∧ depthD (strD o) = 0 := by cases o <;> exact ⟨rfl, rfl⟩
theorem same_lst {n : Nat} {xs : List D} (h : okSL xs = true) (hl : xs.length ≤ 1000) (hd : depthL xs + 1 < n) : evF fs WFU n 19 [.lst xs, .lst xs] = .ok (.bl true) [] := by
  refine l_same ?_ (by rw [depthD]; exact hd)
  rw [okS, h, decide_eq_true hl]; rfl
theorem len_cI (l : List Nat) : opB .len [cI l] = some (.int (l.length : Int)) := by simp [opB, cI, lenD]
theorem s10 {n : Nat} (hn : 10 ≤ n) {ρ : Env} {F : RS} (hF : Canon 0 F) (h2 : gv ρ 2 = some (.lst [.int (sumR F), .int (sumR (oth F)), leastM F, enc [(0, 96)], .str PL, .int 96])) (h4 : gv ρ 4 = some (.str PL)) (h19 : gv ρ 19 = some (cI (cod F))) : evS (evF fs WFU n) WFU st10 ρ = .next ρ := by
  have l1 : ((cod F).length : Int) = sumR F := cod_len hF (Int.le_refl 0)
  have l2 : ((cod (oth F)).length : Int) = sumR (oth F) := cod_len (oth_ok hF).1 (Int.le_refl 0)
  have l3 := cod_oth hF
  have b1 : opBin .sub (.int 97) (.int ((cod F).length : Int)) = some (.int (sumR (oth F))) := by
    show some (D.int (97 - ((cod F).length : Int))) = _
    rw [← l3, l2]
  have b2 := len_cI (cod F)
  rw [l1] at b1 b2
  have a1 := l_least_one (n := n) (by omega) (cod F)
  rw [← leastM_eq hF] at a1
  have hok := okS_strD (((segs.findSome? fun p => (bo F [p]).head?).or F.head?).map (·.1.toNat))
  have hok1 : okS (leastM F) = true := hok.1
  have hok2 : depthD (leastM F) = 0 := hok.2
  have sm := same_lst (n := n) (xs := [.int (sumR F), .int (sumR (oth F)), leastM F, enc [(0, 96)], .str PL, .int 96]) (by simp [okSL, okS, hok1, enc, encP]) (by simp) (by simp [depthL, depthD, hok2, enc, encP]; omega)
  have p : evE (evF fs WFU n) (.cmp .ne (.bi .ord [(.sub (.glob g_SIGNS) (.con (.int 7)))]) (.con (.int 37))) ρ = .ok (.bl false) ρ := by rfl
  refine s_skip ?_
  generalize E.cmp .ne (.bi .ord _) _ = x1 at p ⊢
  have he : enc [(0, 96)] = .tup [.tup [.int 0, .int 96]] := rfl
  rw [he] at sm h2
  simp [evE, evEs, evOr, Out.bind, Out.toS, lift, reread, putIO, h2, h4, h19, b2, b1, a1, sm, p, truthD]
end K01
end -- K01EG

section -- K01EH
set_option Elab.async false
set_option linter.all false
set_option maxRecDepth 100000
set_option maxHeartbeats 4000000
namespace K01
open Ev K01M
theorem e_nx {n : Nat} (hn : 1 ≤ n) {sc : List Int} {t : D} {m : Int} {ρ : Env} (h1 : gv ρ 1 = some t) (ht : IsTape sc t) (hm : 1 ≤ m) (hm2 : m ≤ 1000) : ∃ (x : Nat) (t' : D), evE (evF fs WFU n) (.call 18 [.io, .bor] [(.bvar 1), .con (.int m)]) ρ = .ok (iN x) (ρ.set 1 (some t')) ∧ (x : Int) < m ∧ IsTape sc t' := by
  obtain ⟨x, t', h, hx, hT⟩ := l_next hn ht hm hm2
  refine ⟨x, t', ?_, hx, hT⟩
  simp [evE, evEs, Out.bind, lift, h1, reread, putIO, h]
theorem s11 {n : Nat} (hn : 10 ≤ n) {ρ : Env} {sc : List Int} {t : D} (h1 : gv ρ 1 = some t) (ht : IsTape sc t) : ∃ k t', evS (evF fs WFU n) WFU st11 ρ = .next ((ρ.set 1 (some t')).set 5 (some (iN k))) ∧ k < 97 ∧ IsTape sc t' := by
  obtain ⟨x, t', h, hx, hT⟩ := e_nx (n := n) (m := 97) (by omega) h1 ht (by omega) (by omega)
  refine ⟨x, t', ?_, by omega, hT⟩
  unfold st11
  generalize E.call 18 _ _ = x1 at h ⊢
  simp [evS, h, Out.toS, bindT]
theorem s12 {n : Nat} (hn : 10 ≤ n) {ρ : Env} {k : Nat} (hk : k < 97) (h5 : gv ρ 5 = some (iN k)) : evS (evF fs WFU n) WFU st12 ρ = .next (ρ.set 6 (some (.str [sg k]))) := by
  have a1 := l_signs (n := n) (by omega)
  have a2 := sub_SG hk
  simp [st12, evS, evE, evEs, Out.bind, Out.toS, lift, reread, putIO, a1, h5, a2, bindT]
theorem env_fix (ρ : Env) (a b c d : Option D) : (((ρ.set 1 a).set 24 b).set 1 c).set 24 d = (ρ.set 1 c).set 24 d := by
  have h : ((ρ.set 1 a).set 24 b).set 1 c = ((ρ.set 1 a).set 1 c).set 24 b := List.set_comm b c (by omega)
  rw [h, List.set_set, List.set_set]
def txS (c : CF) : D → Env → Out (Option D) := stepC c (.sub (.call 20 [] []) (.call 18 [.io, .bor] [(.bvar 1), (.con (.int 97))])) (.name 24) [] [24]
theorem tx_loop {n : Nat} (hn : 10 ≤ n) {sc : List Int} {ρ : Env} (hl : ρ.length = 26) : ∀ (ds : List D) {t : D} (ht : IsTape sc t) (acc : List Nat) (ha : ∀ j ∈ acc, j < 97), ∃ (js : List Nat) (t' : D), compLoop (txS (evF fs WFU n)) ds (acc.map fun j => .str [sg j]) ((ρ.set 1 (some t)).set 24 none) = .ok (js.map fun j => .str [sg j]) ((ρ.set 1 (some t')).set 24 none) ∧ IsTape sc t' ∧ (∀ j ∈ js, j < 97) ∧ js.length = acc.length + ds.length
  | [], t, ht, acc, ha => ⟨acc, t, rfl, ht, ha, rfl⟩
  | d :: ds, t, ht, acc, ha => by
    have h1 : gv ((ρ.set 1 (some t)).set 24 (some d)) 1 = some t := by rw [gv_ne (by omega), gv_eq (by omega)]
    obtain ⟨x, t1, h, hx, hT⟩ := e_nx (n := n) (m := 97) (by omega) h1 ht (by omega) (by omega)
    have hx : x < 97 := by omega
    have a1 := l_signs (n := n) (by omega)
    have a2 := sub_SG hx
    have hcall : evE (evF fs WFU n) (.call 20 [] []) ((ρ.set 1 (some t)).set 24 (some d)) = .ok (.str SG) ((ρ.set 1 (some t)).set 24 (some d)) := by
      simp [evE, evEs, Out.bind, reread, putIO, a1]
    have hst : txS (evF fs WFU n) d ((ρ.set 1 (some t)).set 24 none) = .ok (some (.str [sg x])) ((ρ.set 1 (some t1)).set 24 none) := by
      unfold txS stepC
      simp only [bindT, List.set_set, evAll]
      rw [evE, hcall]
      simp only [Out.bind]
      rw [h]
      simp only [a2, lift, wipeE]
      rw [env_fix]
    obtain ⟨js, t2, g1, g2, g3, g4⟩ := tx_loop hn hl ds hT (acc ++ [x]) (fun j hj => (List.mem_append.mp hj).elim (ha j) fun e => by rw [List.mem_singleton.mp e]; exact hx)
    refine ⟨js, t2, ?_, g2, g3, by rw [g4]; simp; omega⟩
    rw [compLoop, hst]
    simp only []
    rw [← g1]
    simp
theorem strsOf_map : ∀ js : List Nat, strsOf (js.map fun j => D.str [sg j]) = some (js.map fun j => [sg j])
  | [] => rfl
  | j :: js => by rw [List.map_cons, strsOf, strsOf_map js]; rfl
theorem joinL_map : ∀ js : List Nat, joinL [] (js.map fun j => [sg j]) = js.map sg
  | [] => rfl
  | [j] => rfl
  | j :: k :: js => by
    have := joinL_map (k :: js)
    simp only [List.map_cons] at this ⊢
    rw [joinL, this]; rfl
    simp
theorem join_js {js : List Nat} (h : js.length ≤ 100) : opM .join (.str []) [.lst (js.map fun j => .str [sg j])] = some (.str (js.map sg)) := by
  have hs : ((js.map fun j => [sg j]).map (·.length)).sum = js.length := by
    clear h
    induction js with
    | nil => rfl
    | cons x xs ih => simp only [List.map_cons, List.sum_cons, ih]; simp; omega
  unfold opM
  simp only [seqD, Option.bind, strsOf_map]
  rw [hs, if_pos, joinL_map]
  show _ ≤ 16777216
  simp
  omega
theorem s13 {n : Nat} (hn : 10 ≤ n) {ρ : Env} (hl : ρ.length = 26) {sc : List Int} {t : D} (h1 : gv ρ 1 = some t) (ht : IsTape sc t) : ∃ (js : List Nat) (t' : D), evS (evF fs WFU n) WFU st13 ρ = .next ((ρ.set 1 (some t')).set 7 (some (.str (js.map sg)))) ∧ (∀ j ∈ js, j < 97) ∧ js.length ≤ 5 ∧ IsTape sc t' := by
  obtain ⟨x, t1, h, hx, hT⟩ := e_nx (n := n) (m := 6) (by omega) h1 ht (by omega) (by omega)
  have hr := rng0 (m := x) (by omega)
  have hrng : evE (evF fs WFU n) (.rng [(.call 18 [.io, .bor] [(.bvar 1), (.con (.int 6))])]) ρ = .ok (.lst ((List.range x).map iN)) (ρ.set 1 (some t1)) := by
    refine e_rng (xs := [.int (x : Int)]) ?_ hr
    generalize E.call 18 _ _ = ic at h ⊢
    rw [evEs, h]; rfl
  obtain ⟨js, t2, g1, g2, g3, g4⟩ := tx_loop (n := n) hn hl ((List.range x).map iN) hT [] (by simp)
  refine ⟨js, t2, ?_, g3, by rw [g4]; simp; omega, g2⟩
  have hc : evE (evF fs WFU n) (.comp (.sub (.call 20 [] []) (.call 18 [.io, .bor] [(.bvar 1), (.con (.int 97))])) (.name 24) (.rng [(.call 18 [.io, .bor] [(.bvar 1), (.con (.int 6))])]) [] [24]) ρ = .ok (.lst (js.map fun j => .str [sg j])) ((((ρ.set 1 (some t2)).set 24 none)).set 24 (gv (ρ.set 1 (some t1)) 24)) := by
    rw [evE, hrng]
    simp only [Out.bind]
    show (match compLoop (txS (evF fs WFU n)) ((List.range x).map iN) [] ((ρ.set 1 (some t1)).set 24 none) with
      | .ok ds ρ' => Out.ok (D.lst ds) (restore [24] (ρ.set 1 (some t1)) ρ')
      | _ => .stuck) = _
    have g1' : compLoop (txS (evF fs WFU n)) ((List.range x).map iN) [] ((ρ.set 1 (some t1)).set 24 none) = .ok (js.map fun j => .str [sg j]) ((ρ.set 1 (some t2)).set 24 none) := g1
    rw [g1']
    rfl
  have hfix : (((ρ.set 1 (some t2)).set 24 none)).set 24 (gv (ρ.set 1 (some t1)) 24) = ρ.set 1 (some t2) := by
    have : gv (ρ.set 1 (some t1)) 24 = gv (ρ.set 1 (some t2)) 24 := by rw [gv_ne (by omega), gv_ne (by omega)]
    rw [this]
    exact set_gv (by rw [List.length_set]; omega)
  rw [hfix] at hc
  have hj := join_js (js := js) (by rw [g4]; simp; omega)
  unfold st13
  generalize E.comp _ _ _ _ _ = ic at hc ⊢
  simp [evS, evE, evEs, Out.bind, Out.toS, lift, recvOk, hc, hj, bindT]
/-! ### the text's signs -/
theorem sg_inj {a b : Nat} (ha : a < 97) (hb : b < 97) (h : sg a = sg b) : a = b := by
  have h1 := find_sg a ha
  rw [h, find_sg b hb] at h1
  injection h1 with h1; exact h1.symm
theorem findS_one (c : Nat) : ∀ (l : List Nat) (j : Nat), (findS [c] l j).isSome = decide (c ∈ l)
  | [], j => by simp [findS]
  | y :: ys, j => by
    unfold findS
    by_cases h : c = y
    · subst h; simp [isPre]
    · have : isPre [c] (y :: ys) = false := by simp [isPre, h]
      rw [this]
      simp only [Bool.false_eq_true, if_false]
      rw [findS_one c ys, Bool.eq_iff_iff]
      simp [h]
theorem notin_str {a : Nat} {l : List Nat} (ha : a < 97) (hl : ∀ k ∈ l, k < 97) : opCmp .notin (.str [sg a]) (.str (l.map sg)) = some (!decide (a ∈ l)) := by
  have : opIn (.str [sg a]) (.str (l.map sg)) = some (decide (a ∈ l)) := by
    unfold opIn infixS
    simp only [findS_one]
    congr 1
    rw [Bool.eq_iff_iff]
    simp only [decide_eq_true_eq, List.mem_map]
    constructor
    · rintro ⟨b, hb, e⟩
      rw [← sg_inj (hl b hb) ha e]; exact hb
    · exact fun h => ⟨a, h, rfl⟩
  show (opIn (.str [sg a]) (.str (l.map sg))).map (!·) = _
  rw [this]; rfl
end K01
end -- K01EH

section -- K01EI
set_option Elab.async false
set_option linter.all false
set_option maxRecDepth 100000
set_option maxHeartbeats 4000000
namespace K01
open Ev K01M
theorem cut0 {α : Type} (xs : List α) (k : Nat) : cutL xs 0 k = xs.take k := by simp [cutL]
theorem s14 {n : Nat} (hn : 10 ≤ n) {ρ : Env} (hl : ρ.length = 26) {js : List Nat} (hj : ∀ j ∈ js, j < 97) (h5 : js.length ≤ 5) (h7 : gv ρ 7 = some (.str (js.map sg))) : evS (evF fs WFU n) WFU st14 ρ = .next (ρ.set 8 (some (cI (cod (sb (prs js)))))) := by
  have g : ∀ (x : Option D), gv (ρ.set 24 x) 24 = x := fun x => gv_eq (by omega)
  have g7 : ∀ (x : Option D), gv (ρ.set 24 x) 7 = some (.str (js.map sg)) := fun x => by rw [gv_ne (by omega), h7]
  have hlen : opB .len [.str (js.map sg)] = some (.int (js.length : Int)) := by simp [opB, lenD]
  have hr : evE (evF fs WFU n) (.rng [(.bi .len [(.var 7)])]) ρ = .ok (.lst ((List.range js.length).map iN)) ρ := e_rng (xs := [.int (js.length : Int)]) (by simp [evEs, evE, Out.bind, lift, h7, hlen]) (rng0 (m := js.length) (by omega))
  have at1 : ∀ y, y < js.length → opSub (.str (js.map sg)) (iN y) = some (.str [sg (js.getD y 0)]) ∧ js.getD y 0 ∈ js := fun y hy => by
    have gx : js[y]? = some js[y] := List.getElem?_eq_getElem hy
    have e : js.getD y 0 = js[y] := by rw [List.getD_eq_getElem?_getD, gx]; rfl
    refine ⟨?_, by rw [e]; exact List.getElem_mem hy⟩
    unfold opSub iN
    simp only [atD, ixI, List.length_map]
    rw [if_pos (by omega), if_pos (by omega), e]
    simp [gx]
  let p : Nat → Bool := fun i => !decide (js.getD i 0 ∈ js.take i)
  have c1 : evE (evF fs WFU n) (.comp (.meth .find (.call 20 [] []) [(.sub (.var 7) (.var 24))]) (.name 24) (.rng [(.bi .len [(.var 7)])]) [(.cmp .notin (.sub (.var 7) (.var 24)) (.slice (.var 7) (.con .non) (.var 24)))] [24]) ρ = .ok (.lst (((List.range js.length).filter p).map fun i => iN (js.getD i 0))) ρ :=
    comp1 (g := iN) (xs := List.range js.length) (h := fun i => iN (js.getD i 0)) (p := p) (by omega) hr rfl (fun y hy => by
      have hy := List.mem_range.mp hy
      obtain ⟨s1, s2⟩ := at1 y hy
      have sl : opSlice (.str (js.map sg)) .non (iN y) = some (.str ((js.map sg).take y)) := by
        have : sliceIx (js.map sg).length (js.map sg).length (iN y) = some y := by
          unfold iN sliceIx
          simp only [List.length_map]
          rw [if_neg (by omega)]
          congr 1; omega
        have e0 : sliceIx (js.map sg).length 0 .non = some 0 := rfl
        unfold opSlice
        simp only [this, e0, Option.bind, Option.map, cut0]
      have ni := notin_str (a := js.getD y 0) (l := js.take y) (hj _ s2) (fun k hk => hj k (List.mem_of_mem_take hk))
      rw [List.map_take] at ni
      have po : partOk (.var 24) (iN y) = true := rfl
      have po0 : partOk (.con .non) .non = true := rfl
      show evAll _ _ (ρ.set 24 (some (iN y))) = .ok (!decide (js.getD y 0 ∈ js.take y)) (ρ.set 24 (some (iN y)))
      generalize js.getD y 0 = v at s1 ni ⊢
      by_cases e : v ∈ js.take y
      · simp only [e, decide_true] at ni
        simp [evAll, evE, evEs, Out.bind, lift, g, g7, s1, sl, ni, po, po0, truthD, e]
      · simp only [e, decide_false] at ni
        simp [evAll, evE, evEs, Out.bind, lift, g, g7, s1, sl, ni, po, po0, truthD, e]) (fun y hy _ => by
      have hy := List.mem_range.mp hy
      obtain ⟨s1, s2⟩ := at1 y hy
      have a1 := l_signs (n := n) (by omega)
      have hf : opM .find (.str SG) [.str [sg (js.getD y 0)]] = some (iN (js.getD y 0)) := by simp only [opM]; rw [find_sg _ (hj _ s2)]; rfl
      generalize js.getD y 0 = v at s1 hf ⊢
      simp [evE, evEs, Out.bind, lift, g, g7, s1, a1, reread, putIO, recvOk, hf])
  have e1 : ((List.range js.length).filter p).map (fun i => iN (js.getD i 0)) = (ded js js.length).map iN := by
    unfold ded
    rw [List.map_filterMap, ← fm_filter]
    congr 1
    funext i
    show (if (!decide (js.getD i 0 ∈ js.take i)) = true then _ else none) = (ded1 js i).map iN
    unfold ded1
    generalize js.getD i 0 = v
    by_cases e : v ∈ js.take i <;> simp [e]
  rw [e1] at c1
  have hs : opB .sorted [.lst ((ded js js.length).map iN)] = some (cI (cod (sb (prs js)))) := by
    rw [← ded_cod hj]; exact sorted_cI _
  unfold st14
  generalize E.comp _ _ _ _ _ = ic at c1 ⊢
  simp [evS, evE, evEs, Out.bind, Out.toS, lift, c1, hs, bindT]
theorem mem_codR {F : RS} {k : Nat} (hk : k < 97) : memR (k : Int) F = decide (k ∈ cod F) := by
  rw [Bool.eq_iff_iff, decide_eq_true_eq, mem_cod]
  exact ⟨fun h => ⟨hk, h⟩, fun h => h.2⟩
theorem s15 {n : Nat} (hn : 10 ≤ n) {ρ : Env} {F : RS} {k : Nat} (hk : k < 97) {js : List Nat} (hj : ∀ j ∈ js, j < 97) (hjl : js.length ≤ 5) (h5 : gv ρ 5 = some (iN k)) (h6 : gv ρ 6 = some (.str [sg k])) (h7 : gv ρ 7 = some (.str (js.map sg))) (h8 : gv ρ 8 = some (cI (cod (sb (prs js))))) (h17 : gv ρ 17 = some (enc F)) (h19 : gv ρ 19 = some (cI (cod F))) : evS (evF fs WFU n) WFU st15 ρ = .next ρ := by
  have a1 := l_has (n := n) (by omega) F hk
  rw [mem_codR hk] at a1
  have a2 := l_number (n := n) (by omega) hk
  have a3 := l_sign_of (n := n) (by omega) hk
  have a4 := l_is_text (n := n) (by omega) hj
  have a5 := l_signs_in (n := n) (by omega) hj (by omega)
  have a6 := l_codes (n := n) (by omega) (sb (prs js)) (enc (sb (prs js))) rfl
  have i1 := in_cI k (cod F)
  have hlen : (cod (sb (prs js))).length ≤ 97 := by
    have := List.length_filter_le (fun k : Nat => memR (k : Int) (sb (prs js))) (List.range 97)
    rw [List.length_range] at this
    exact this
  have ok1 : okS (cI (cod (sb (prs js)))) = true := by
    have : ∀ l : List Nat, okSL (l.map iN) = true := fun l => by
      induction l with
      | nil => rfl
      | cons x xs ih => rw [List.map_cons, okSL, ih]; rfl
    unfold cI
    rw [okS, this, List.length_map, decide_eq_true (by omega)]; rfl
  have d1 := depth_cI (cod (sb (prs js)))
  have sm := same_lst (n := n) (xs := [.bl (decide (k ∈ cod F)), iN k, .str [sg k], .bl true, cI (cod (sb (prs js)))]) (by simp [okSL, okS, ok1, iN]) (by simp) (by simp [depthL, depthD, iN]; omega)
  refine s_skip ?_
  simp [evE, evEs, Out.bind, lift, reread, putIO, h5, h6, h7, h8, h17, h19, a1, a2, a3, a4, a5, a6, i1, sm, truthD]
theorem s16 {n : Nat} (hn : 10 ≤ n) {ρ : Env} (hl : ρ.length = 26) {js : List Nat} (hj : ∀ j ∈ js, j < 97) (hjl : js.length ≤ 5) (h7 : gv ρ 7 = some (.str (js.map sg))) : evS (evF fs WFU n) WFU st16 ρ = .next ρ := by
  have a5 := l_signs_in (n := n) (by omega) hj (by omega)
  have a1 := l_is_signs (n := n) (by omega) (sb_ok (prs_in hj)).1
  have i1 : opCmp .isnot (.bl true) (.bl true) = some false := rfl
  have i2 : opCmp .isnot (.bl false) (.bl false) = some false := rfl
  have g : ∀ (x : Option D), gv (ρ.set 25 x) 25 = x := fun x => gv_eq (by omega)
  have c1 : evE (evF fs WFU n) (.comp (.var 25) (.name 25) (.tup [(.con .non), (.con (.int 1)), (.lst [(.var 7)]), (.tup [(.var 7)])]) [(.cmp .isnot (.call 3 [.bor] [(.var 25)]) (.con (.bl false)))] [25]) ρ = .ok (.lst (([D.non, .int 1, .lst [.str (js.map sg)], .tup [.str (js.map sg)]].filter fun _ => false).map id)) ρ :=
    comp1 (g := id) (xs := [D.non, .int 1, .lst [.str (js.map sg)], .tup [.str (js.map sg)]]) (h := id) (x := .tup [D.non, .int 1, .lst [.str (js.map sg)], .tup [.str (js.map sg)]]) (by omega) (by simp [evE, evEs, Out.bind, lift, h7]) rfl (fun y hy => by
      have hn : isTy y .str = some false := by
        simp at hy
        rcases hy with e | e | e | e <;> subst e <;> rfl
      have a3 := l_not_text (n := n) (by omega) hn
      simp [evAll, evE, evEs, Out.bind, lift, g, a3, i2, reread, putIO, truthD]) (fun y _ _ => e_var (g _))
  have hne : opCmp .ne (.lst (([D.non, .int 1, .lst [.str (js.map sg)], .tup [.str (js.map sg)]].filter fun _ => false).map id)) (.lst []) = some false := rfl
  generalize D.lst (([D.non, .int 1, .lst [.str (js.map sg)], .tup [.str (js.map sg)]].filter fun _ => false).map id) = dd at c1 hne
  refine s_skip ?_
  generalize E.comp _ _ _ _ _ = ic at c1 ⊢
  simp [evE, evEs, evOr, Out.bind, lift, reread, putIO, h7, a5, a1, i1, c1, hne, truthD]
end K01
end -- K01EI

section -- K01EJ
set_option Elab.async false
set_option linter.all false
set_option maxRecDepth 100000
set_option maxHeartbeats 4000000
namespace K01
open Ev K01M
theorem s17 {n : Nat} (hn : 10 ≤ n) {ρ : Env} {F G : RS} (hF : Canon 0 F) (hG : Canon 0 G) (h17 : gv ρ 17 = some (enc F)) (h18 : gv ρ 18 = some (enc G)) : evS (evF fs WFU n) WFU st17 ρ = .next (ρ.set 9 (some (encs (sortR (clsM F G))))) := by
  have a1 := l_classes (n := n) (by omega) hF hG
  simp [st17, evS, evE, evEs, Out.bind, Out.toS, lift, reread, putIO, h17, h18, a1, bindT]
theorem int_bl (b : Bool) : opB .int [.bl b] = some (.int (if b then 1 else 0)) := rfl
def nmsD (F G : RS) : D := .lst ((List.range 97).map fun k => encB (nmB F G k))
theorem s18 {n : Nat} (hn : 10 ≤ n) {ρ : Env} (hl : ρ.length = 26) {F G : RS} (h19 : gv ρ 19 = some (cI (cod F))) (h20 : gv ρ 20 = some (cI (cod G))) (h21 : gv ρ 21 = some (cI (List.range 97))) : evS (evF fs WFU n) WFU st18 ρ = .next (ρ.set 10 (some (nmsD F G))) := by
  have g : ∀ (x : Option D), gv (ρ.set 24 x) 24 = x := fun x => gv_eq (by omega)
  have g19 : ∀ (x : Option D), gv (ρ.set 24 x) 19 = some (cI (cod F)) := fun x => by rw [gv_ne (by omega), h19]
  have g20 : ∀ (x : Option D), gv (ρ.set 24 x) 20 = some (cI (cod G)) := fun x => by rw [gv_ne (by omega), h20]
  have c1 : evE (evF fs WFU n) (.comp (.tup [(.bi .int [(.cmp .in_ (.var 24) (.var 19))]), (.bi .int [(.cmp .in_ (.var 24) (.var 20))])]) (.name 24) (.var 21) [] [24]) ρ = .ok (.lst (((List.range 97).filter fun _ => true).map fun k => encB (nmB F G k))) ρ :=
    comp1 (g := iN) (xs := List.range 97) (h := fun k => encB (nmB F G k)) (by omega) (e_var h21) rfl (fun y _ => rfl) (fun y hy _ => by
      have hy := List.mem_range.mp hy
      have i1 := in_cI y (cod F)
      have i2 := in_cI y (cod G)
      rw [← mem_codR hy] at i1 i2
      simp only [evE, evEs, Out.bind, lift, g, g19, g20, i1, i2, Option.map, int_bl]
      rfl)
  have e1 : (List.range 97).filter (fun _ => true) = List.range 97 := List.filter_eq_self.mpr fun _ _ => rfl
  rw [e1] at c1
  unfold st18
  generalize E.comp _ _ _ _ _ = ic at c1 ⊢
  simp [evS, Out.toS, c1, bindT, nmsD]
theorem eqD_encB (p q : Bool × Bool) : eqD (encB p) (encB q) = decide (p = q) := by
  obtain ⟨a, b⟩ := p
  obtain ⟨c, d⟩ := q
  cases a <;> cases b <;> cases c <;> cases d <;> rfl
theorem plain_encB (p : Bool × Bool) : plainD (encB p) = true := rfl
theorem depth_encB (p : Bool × Bool) : depthD (encB p) = 1 := rfl
theorem allOk_encB (a : Bool × Bool) : ∀ l : List (Bool × Bool), allOk (encB a) (l.map encB) = true
  | [] => by simp [allOk]
  | x :: xs => by
    rw [List.map_cons, allOk, allOk_encB a xs]
    unfold okEq
    rw [plain_encB, plain_encB, depth_encB, depth_encB]; rfl
theorem anyEq_encB (a : Bool × Bool) : ∀ l : List (Bool × Bool), anyEq (encB a) (l.map encB) = decide (a ∈ l)
  | [] => by simp [anyEq]
  | x :: xs => by
    rw [List.map_cons, anyEq, anyEq_encB a xs, eqD_encB, Bool.eq_iff_iff]
    simp only [Bool.or_eq_true, decide_eq_true_eq, List.mem_cons]
    exact or_congr eq_comm Iff.rfl
theorem in_nms (F G : RS) (p : Bool × Bool) : opCmp .in_ (encB p) (nmsD F G) = some (decide (p ∈ (List.range 97).map (nmB F G))) := by
  have e : (List.range 97).map (fun k => encB (nmB F G k)) = ((List.range 97).map (nmB F G)).map encB := by rw [List.map_map]; rfl
  show opIn (encB p) (nmsD F G) = _
  unfold nmsD opIn
  simp only []
  rw [e, allOk_encB, anyEq_encB]; rfl
theorem s19 {n : Nat} (hn : 10 ≤ n) {ρ : Env} (hl : ρ.length = 26) {F G : RS} (h10 : gv ρ 10 = some (nmsD F G)) : evS (evF fs WFU n) WFU st19 ρ = .next (ρ.set 11 (some (.lst ((knd F G).map encB)))) := by
  have g : ∀ (x : Option D), gv (ρ.set 23 x) 23 = x := fun x => gv_eq (by omega)
  have g10 : ∀ (x : Option D), gv (ρ.set 23 x) 10 = some (nmsD F G) := fun x => by rw [gv_ne (by omega), h10]
  have c1 : evE (evF fs WFU n) (.comp (.var 23) (.name 23) (.tup [(.tup [(.con (.int 0)), (.con (.int 0))]), (.tup [(.con (.int 0)), (.con (.int 1))]), (.tup [(.con (.int 1)), (.con (.int 0))]), (.tup [(.con (.int 1)), (.con (.int 1))])]) [(.cmp .in_ (.var 23) (.var 10))] [23]) ρ = .ok (.lst ((knd F G).map encB)) ρ :=
    comp1 (g := encB) (xs := [(false, false), (false, true), (true, false), (true, true)]) (h := encB) (p := fun p => decide (p ∈ (List.range 97).map (nmB F G))) (by omega) (x := .tup [encB (false, false), encB (false, true), encB (true, false), encB (true, true)]) rfl rfl (fun y _ => by
      have i1 := in_nms F G y
      generalize decide (y ∈ (List.range 97).map (nmB F G)) = b at i1 ⊢
      cases b <;> simp [evAll, evE, Out.bind, lift, g, g10, i1, truthD]) (fun y _ _ => e_var (g _))
  unfold st19
  generalize E.comp _ _ _ _ _ = ic at c1 ⊢
  simp [evS, Out.toS, c1, bindT]
theorem okEq_encs (l : List RS) : opCmp .ne (encs l) (encs l) = some false := by
  have hp : plainD (encs l) = true := by unfold encs; rw [plainD]; exact plain_map _ plain_enc l
  have hd : depthD (encs l) ≤ 3 := by
    unfold encs; rw [depthD]
    have := depth_map (k := 2) enc depth_enc l
    omega
  have he : eqD (encs l) (encs l) = true := by unfold encs; rw [eqD, eqL_map enc eqD_enc]; simp
  show (opEq (encs l) (encs l)).map (!·) = _
  unfold opEq okEq
  rw [hp, decide_eq_true (show min (depthD (encs l)) (depthD (encs l)) ≤ 100 by omega), he]; rfl
theorem s20 {n : Nat} (hn : 10 ≤ n) {ρ : Env} {F G : RS} (hF : Canon 0 F) (hG : Canon 0 G) (h9 : gv ρ 9 = some (encs (sortR (clsM F G)))) (h11 : gv ρ 11 = some (.lst ((knd F G).map encB))) : evS (evF fs WFU n) WFU st20 ρ = .next ρ := by
  have hs : opB .sorted [encs (sortR (clsM F G))] = some (encs (sortR (clsM F G))) := by
    have := sorted_enc (l := sortR (clsM F G)) fun x hx => (cls_canon hF hG x ((sortR_perm _).mem_iff.mp hx)).2
    rw [sortR_idem] at this
    exact this
  have hne := okEq_encs (sortR (clsM F G))
  have l1 : opB .len [encs (sortR (clsM F G))] = some (.int ((knd F G).length : Int)) := by
    have : opB .len [encs (sortR (clsM F G))] = some (.int ((sortR (clsM F G)).length : Int)) := by simp [opB, encs, lenD]
    rw [this, (sortR_perm _).length_eq, cls_len hF hG]
  have l2 : opB .len [.lst ((knd F G).map encB)] = some (.int ((knd F G).length : Int)) := by simp [opB, lenD]
  have n2 : opCmp .ne (.int ((knd F G).length : Int)) (.int ((knd F G).length : Int)) = some false := by rw [ne_int]; simp
  refine s_skip ?_
  simp [evE, evEs, evOr, Out.bind, lift, h9, h11, hs, hne, l1, l2, n2, truthD]
end K01
end -- K01EJ

section -- K01EK
set_option Elab.async false
set_option linter.all false
set_option maxRecDepth 100000
set_option maxHeartbeats 4000000
namespace K01
open Ev K01M
def clS : List S := [(.asg (.name 22) (.call 22 [.bor] [(.var 12)])), (.asg (.name 23) (.sub (.var 10) (.sub (.var 22) (.con (.int 0))))), (.ite (.orL [(.not_ (.call 2 [.bor] [(.var 12)])), (.cmp .ne (.var 22) (.comp (.var 24) (.name 24) (.var 21) [(.cmp .eq (.sub (.var 10) (.var 24)) (.var 23))] [24])), (.cmp .ne (.sub (.var 9) (.call 17 [.bor, .bor] [(.var 9), (.sub (.call 20 [] []) (.sub (.var 22) (.con (.int 0))))])) (.var 12))]) [(.ret (.con (.bl false)))] [])]
def clB (c : CF) : D → Env → SOut := fun x ρ => match bindT (.name 12) x ρ with
      | some ρ => evSs c WFU clS ρ
      | none => .stuck
structure Kp (F G : RS) (t : D) (ρ : Env) : Prop where
  len : ρ.length = 26
  h9 : gv ρ 9 = some (encs (sortR (clsM F G)))
  h10 : gv ρ 10 = some (nmsD F G)
  h21 : gv ρ 21 = some (cI (List.range 97))
  h1 : gv ρ 1 = some t
  h17 : gv ρ 17 = some (enc F)
theorem Kp.set {F G : RS} {t : D} {ρ : Env} (h : Kp F G t ρ) {i : Nat} {x : Option D} (hi : i = 12 ∨ i = 22 ∨ i = 23) : Kp F G t (ρ.set i x) := by
  have n : i ≠ 9 ∧ i ≠ 10 ∧ i ≠ 21 ∧ i ≠ 1 ∧ i ≠ 17 := by omega
  exact ⟨by rw [List.length_set]; exact h.len, by rw [gv_ne n.1]; exact h.h9, by rw [gv_ne n.2.1]; exact h.h10, by rw [gv_ne n.2.2.1]; exact h.h21, by rw [gv_ne n.2.2.2.1]; exact h.h1, by rw [gv_ne n.2.2.2.2]; exact h.h17⟩
theorem nms_at (F G : RS) {k : Nat} (hk : k < 97) : opSub (nmsD F G) (iN k) = some (encB (nmB F G k)) := by
  unfold nmsD
  exact (sub_at (xs := (List.range 97).map fun k => encB (nmB F G k)) (k := k) (by simp [hk])).2
theorem eq_encB (p q : Bool × Bool) : opCmp .eq (encB p) (encB q) = some (decide (p = q)) := by
  show opEq (encB p) (encB q) = _
  unfold opEq okEq
  rw [plain_encB, plain_encB, depth_encB, depth_encB, eqD_encB]; rfl
theorem ne_self_cI (l : List Nat) : opCmp .ne (cI l) (cI l) = some false := by show (opEq (cI l) (cI l)).map (!·) = _; rw [opEq_cI]; simp
theorem ne_self_enc (l : RS) : opCmp .ne (enc l) (enc l) = some false := by show (opEq (enc l) (enc l)).map (!·) = _; rw [opEq_enc]; simp
theorem cl_step {n : Nat} (hn : 10 ≤ n) {F G : RS} (hF : Canon 0 F) (hG : Canon 0 G) {t : D} {ρ : Env} (K : Kp F G t ρ) {X : RS} (hX : X ∈ clsM F G) : ∃ ρ', clB (evF fs WFU n) (enc X) ρ = .next ρ' ∧ Kp F G t ρ' := by
  obtain ⟨p, hp, hne⟩ := cls_part hG hX
  obtain ⟨cX, mX⟩ := part_ok hF hG p
  rw [← hp] at cX mX
  have hcp := cod_part hF hG p
  rw [← hp] at hcp
  obtain ⟨k0, hk0, hm0⟩ := (nonempty_iff cX).mp (by cases X with
    | nil => exact absurd rfl hne
    | cons => rfl)
  have hk0c : k0 ∈ cod X := mem_cod.mpr ⟨hk0, hm0⟩
  obtain ⟨k, r, hkr⟩ : ∃ k r, cod X = k :: r := by
    cases e : cod X with
    | nil => rw [e] at hk0c; simp at hk0c
    | cons k r => exact ⟨k, r, rfl⟩
  have hkc : k ∈ cod X := by rw [hkr]; exact List.mem_cons_self
  obtain ⟨hk, hkm⟩ := mem_cod.mp hkc
  have hnm : nmB F G k = p := by
    rw [hcp] at hkc
    exact of_decide_eq_true (List.mem_filter.mp hkc).2
  have hC : X ∈ sortR (clsM F G) := (sortR_perm _).mem_iff.mpr hX
  have hClen : (sortR (clsM F G)).length ≤ 100 := by
    rw [(sortR_perm _).length_eq, cls_len hF hG]
    have := List.length_filter_le (fun p => decide (p ∈ (List.range 97).map (nmB F G))) [(false, false), (false, true), (true, false), (true, true)]
    unfold knd
    simp only [List.length_cons, List.length_nil] at this ⊢
    omega
  obtain ⟨i, Y, hco, hY, hYm⟩ := l_class_of (n := n) (by omega) hClen hk hC hkm
  have hYX : Y = X := by
    have hYc : Y ∈ clsM F G := (sortR_perm _).mem_iff.mp (List.mem_of_getElem? hY)
    obtain ⟨q, hq, _⟩ := cls_part hG hYc
    rw [hp] at hkm ⊢
    rw [hq] at hYm ⊢
    rw [same_part hF hG hYm hkm]
  rw [hYX] at hY
  have sC := sub_encs hY
  have a1 := l_codes (n := n) (by omega) X (enc X) rfl
  have a2 := l_is_signs (n := n) (by omega) cX
  have a3 := l_signs (n := n) (by omega)
  have s0 : opSub (cI (cod X)) (.int 0) = some (iN k) := by
    rw [hkr]
    exact (sub_at (xs := (k :: r).map iN) (k := 0) rfl).2
  have sn := nms_at F G hk
  rw [hnm] at sn
  have ssg := sub_SG hk
  have L := K.len
  let ρ1 := ρ.set 12 (some (enc X))
  let ρ2 := ρ1.set 22 (some (cI (cod X)))
  let ρ3 := ρ2.set 23 (some (encB p))
  have K1 : Kp F G t ρ1 := K.set (.inl rfl)
  have K2 : Kp F G t ρ2 := K1.set (.inr (.inl rfl))
  have K3 : Kp F G t ρ3 := K2.set (.inr (.inr rfl))
  refine ⟨ρ3, ?_, K3⟩
  have v12 : gv ρ1 12 = some (enc X) := gv_eq (by omega)
  have e1 : evS (evF fs WFU n) WFU (.asg (.name 22) (.call 22 [.bor] [(.var 12)])) ρ1 = .next ρ2 := by
    simp only [evS, evE, evEs, Out.bind, Out.toS, lift, reread, putIO, v12, Option.map, a1, bindT]
    rfl
  have v22 : gv ρ2 22 = some (cI (cod X)) := gv_eq (by rw [List.length_set]; omega)
  have e2 : evS (evF fs WFU n) WFU (.asg (.name 23) (.sub (.var 10) (.sub (.var 22) (.con (.int 0))))) ρ2 = .next ρ3 := by
    simp only [evS, evE, Out.bind, Out.toS, lift, v22, K2.h10, s0, sn, bindT]
    rfl
  have w12 : gv ρ3 12 = some (enc X) := by
    show gv ((ρ1.set 22 _).set 23 _) 12 = _
    rw [gv_ne (by omega), gv_ne (by omega)]; exact v12
  have w22 : gv ρ3 22 = some (cI (cod X)) := by
    show gv (ρ2.set 23 _) 22 = _
    rw [gv_ne (by omega)]; exact v22
  have w23 : gv ρ3 23 = some (encB p) := gv_eq (by rw [List.length_set, List.length_set]; omega)
  have L3 := K3.len
  have K9 := K3.h9
  have K10 := K3.h10
  have K21 := K3.h21
  show SOut.then (evS _ _ _ ρ1) _ = _
  rw [e1]
  simp only [SOut.then]
  rw [evSs, e2]
  simp only [SOut.then]
  rw [evSs]
  clear e1 e2 v12 v22 K2 K1
  generalize ρ3 = ρ at *
  have g : ∀ (x : Option D), gv (ρ.set 24 x) 24 = x := fun x => gv_eq (by omega)
  have g10 : ∀ (x : Option D), gv (ρ.set 24 x) 10 = some (nmsD F G) := fun x => by rw [gv_ne (by omega), K10]
  have g23 : ∀ (x : Option D), gv (ρ.set 24 x) 23 = some (encB p) := fun x => by rw [gv_ne (by omega), w23]
  have c1 : evE (evF fs WFU n) (.comp (.var 24) (.name 24) (.var 21) [(.cmp .eq (.sub (.var 10) (.var 24)) (.var 23))] [24]) ρ = .ok (cI (cod X)) ρ := by
    rw [hcp]
    exact comp1 (g := iN) (xs := List.range 97) (h := iN) (p := fun k => decide (nmB F G k = p)) (by omega) (e_var K21) rfl (fun y hy => by
      have hy := List.mem_range.mp hy
      have s1 := nms_at F G hy
      have q1 := eq_encB (nmB F G y) p
      generalize decide (nmB F G y = p) = b at q1 ⊢
      cases b <;> simp [evAll, evE, Out.bind, lift, g, g10, g23, s1, q1, truthD]) (fun y _ _ => e_var (g _))
  have n1 := ne_self_cI (cod X)
  have n2 := ne_self_enc X
  have hsk : evS (evF fs WFU n) WFU (.ite (.orL [(.not_ (.call 2 [.bor] [(.var 12)])), (.cmp .ne (.var 22) (.comp (.var 24) (.name 24) (.var 21) [(.cmp .eq (.sub (.var 10) (.var 24)) (.var 23))] [24])), (.cmp .ne (.sub (.var 9) (.call 17 [.bor, .bor] [(.var 9), (.sub (.call 20 [] []) (.sub (.var 22) (.con (.int 0))))])) (.var 12))]) [(.ret (.con (.bl false)))] []) ρ = .next ρ := by
    refine s_skip ?_
    generalize E.comp _ _ _ _ _ = ic at c1 ⊢
    simp [evE, evEs, evOr, Out.bind, lift, reread, putIO, w12, w22, K9, c1, a2, a3, s0, ssg, n1, n2, hco, sC, truthD]
  rw [hsk]
  rfl
theorem cl_loop {n : Nat} (hn : 10 ≤ n) {F G : RS} (hF : Canon 0 F) (hG : Canon 0 G) {t : D} : ∀ (l : List RS) (hl : ∀ X ∈ l, X ∈ clsM F G) {ρ : Env} (K : Kp F G t ρ), ∃ ρ', forLoop (clB (evF fs WFU n)) (l.map enc) ρ = .next ρ' ∧ Kp F G t ρ'
  | [], _, ρ, K => ⟨ρ, rfl, K⟩
  | X :: l, hl, ρ, K => by
    obtain ⟨ρ1, h1, K1⟩ := cl_step hn hF hG K (hl X List.mem_cons_self)
    obtain ⟨ρ2, h2, K2⟩ := cl_loop hn hF hG l (fun Y hY => hl Y (List.mem_cons_of_mem _ hY)) K1
    exact ⟨ρ2, by rw [List.map_cons, forLoop, h1]; exact h2, K2⟩
theorem s21 {n : Nat} (hn : 10 ≤ n) {F G : RS} (hF : Canon 0 F) (hG : Canon 0 G) {t : D} {ρ : Env} (K : Kp F G t ρ) : ∃ ρ', evS (evF fs WFU n) WFU st21 ρ = .next ρ' ∧ Kp F G t ρ' := by
  obtain ⟨ρ', h, K'⟩ := cl_loop hn hF hG (sortR (clsM F G)) (fun X hX => (sortR_perm _).mem_iff.mp hX) K
  refine ⟨ρ', ?_, K'⟩
  have e : evE (evF fs WFU n) (.var 9) ρ = .ok (encs (sortR (clsM F G))) ρ := e_var K.h9
  show evS _ _ (.for_ (.name 12) (.var 9) clS) ρ = _
  rw [evS, e]
  exact h
end K01
end -- K01EK

section -- K01EL
set_option Elab.async false
set_option linter.all false
set_option maxRecDepth 100000
set_option maxHeartbeats 4000000
namespace K01
open Ev K01M
theorem s22 {n : Nat} (hn : 10 ≤ n) {ρ : Env} {sc : List Int} {t : D} (h1 : gv ρ 1 = some t) (ht : IsTape sc t) : ∃ (k : Nat) (t' : D), evS (evF fs WFU n) WFU st22 ρ = .next ((ρ.set 1 (some t')).set 13 (some (iN k))) ∧ k < 50 := by
  obtain ⟨x, t', h, hx, hT⟩ := e_nx (n := n) (m := 50) (by omega) h1 ht (by omega) (by omega)
  refine ⟨x, t', ?_, by omega⟩
  unfold st22
  generalize E.call 18 _ _ = x1 at h ⊢
  simp [evS, h, Out.toS, bindT]
def od1 (k : Nat) : List (D × Bool) := [(encP ((k : Int), (k : Int)), true), (encP ((k : Int), (k : Int) + 1), true), (encP ((k : Int) + 1, (k : Int)), false), (.tup [iN k], false), (.lst [iN k, iN k], false), (.non, false), (.tup [.bl true, .int 2], false), (encP ((k : Int), 97), false), (encP (-1, (k : Int)), false)]
theorem s23 {n : Nat} {ρ : Env} {k : Nat} (h : gv ρ 13 = some (iN k)) : evS (evF fs WFU n) WFU st23 ρ = .next (ρ.set 14 (some (.lst ((od1 k).map Prod.fst)))) := by
  have ha : opBin .add (iN k) (.int 1) = some (.int ((k : Int) + 1)) := rfl
  simp only [st23, evS, evE, evEs, Out.bind, Out.toS, lift, h, ha, bindT]
  rfl
theorem r_nt {n : Nat} (hn : 2 ≤ n) {d : D} (h : isTy d .tuple = some false) : evF fs WFU n 1 [d] = .ok (.bl false) [] := by
  obtain ⟨n, rfl⟩ := Nat.exists_eq_add_of_le' (show 1 ≤ n by omega)
  rw [cf_eq (g := f_is_range) rfl rfl]
  simp [f_is_range, startE, evSs, evS, testE, evE, evEs, evOr, Out.bind, Out.toS, SOut.then, lift, gv, finE, outsOf, h, truthD]
theorem r_one {n : Nat} (hn : 2 ≤ n) (d : D) : evF fs WFU n 1 [.tup [d]] = .ok (.bl false) [] := by
  obtain ⟨n, rfl⟩ := Nat.exists_eq_add_of_le' (show 1 ≤ n by omega)
  rw [cf_eq (g := f_is_range) rfl rfl]
  have h : isTy (.tup [d]) .tuple = some true := rfl
  have hl : opB .len [.tup [d]] = some (.int 1) := rfl
  have hx : opCmp .ne (.int 1) (.int 2) = some true := by rw [ne_int]; rfl
  simp [f_is_range, startE, evSs, evS, testE, evE, evEs, evOr, Out.bind, Out.toS, SOut.then, lift, gv, finE, outsOf, h, hl, hx, truthD]
theorem r_bl {n : Nat} (hn : 2 ≤ n) (b : Bool) (x : D) : evF fs WFU n 1 [.tup [.bl b, x]] = .ok (.bl false) [] := by
  obtain ⟨n, rfl⟩ := Nat.exists_eq_add_of_le' (show 1 ≤ n by omega)
  rw [cf_eq (g := f_is_range) rfl rfl]
  have h1 := l_is_count (n := n) (by omega) (.bl b) rfl
  have h : isTy (.tup [.bl b, x]) .tuple = some true := rfl
  have hl : opB .len [.tup [.bl b, x]] = some (.int 2) := rfl
  have hx : opCmp .ne (.int 2) (.int 2) = some false := by rw [ne_int]; rfl
  have hs : opSub (.tup [.bl b, x]) (.int 0) = some (.bl b) := rfl
  simp [f_is_range, startE, evSs, evS, testE, evE, evEs, evOr, Out.bind, Out.toS, SOut.then, lift, gv, finE, outsOf, h, hl, hx, hs, h1, cntD, reread, putIO, truthD]
theorem od1_ok {n : Nat} (hn : 2 ≤ n) {k : Nat} (hk : k < 50) : ∀ q ∈ od1 k, evF fs WFU n 1 [q.1] = .ok (.bl q.2) [] := by
  have r : ∀ (p : Int × Int) (b : Bool), rngP p = b → evF fs WFU n 1 [encP p] = .ok (.bl b) [] := fun p b h => by rw [l_is_range hn p, h]
  intro q hq
  simp only [od1, List.mem_cons, List.not_mem_nil, or_false] at hq
  rcases hq with e | e | e | e | e | e | e | e | e <;> subst e
  · exact r _ _ (by simp [rngP]; omega)
  · exact r _ _ (by simp [rngP]; omega)
  · exact r _ _ (by simp [rngP]; omega)
  · exact r_one hn _
  · exact r_nt hn rfl
  · exact r_nt hn rfl
  · exact r_bl hn _ _
  · exact r _ _ (by simp [rngP])
  · exact r _ _ (by simp [rngP])
theorem filter_t {α : Type} (l : List α) : l.filter (fun _ => true) = l := List.filter_eq_self.mpr fun _ _ => rfl
theorem odd_comp {n f : Nat} (hn : 1 ≤ n) {ρ : Env} (hl : ρ.length = 26) {l : List (D × Bool)} (h : ∀ q ∈ l, evF fs WFU n f [q.1] = .ok (.bl q.2) []) {it : E} (hi : evE (evF fs WFU n) it ρ = .ok (.lst (l.map Prod.fst)) ρ) :
    evE (evF fs WFU n) (.comp (.call f [.bor] [(.var 25)]) (.name 25) it [] [25]) ρ = .ok (.lst (l.map fun q => .bl q.2)) ρ := by
  have g : ∀ (x : Option D), gv (ρ.set 25 x) 25 = x := fun x => gv_eq (by omega)
  have := comp1 (c := evF fs WFU n) (elt := .call f [.bor] [(.var 25)]) (ifs := []) (g := Prod.fst) (xs := l) (h := fun q => D.bl q.2) (p := fun _ => true) (i := 25) (by omega) hi rfl (fun y _ => rfl) (fun y hy _ => by
    have := h y hy
    simp [evE, evEs, Out.bind, lift, g, reread, putIO, this])
  rw [filter_t] at this
  exact this
theorem sm_bl {n : Nat} (hn : 10 ≤ n) (l : List Bool) (hl : l.length ≤ 1000) : evF fs WFU n 19 [.lst (l.map .bl), .lst (l.map .bl)] = .ok (.bl true) [] := by
  have h1 : okSL (l.map D.bl) = true := by
    clear hl
    induction l with
    | nil => rfl
    | cons x xs ih => rw [List.map_cons, okSL, ih]; rfl
  have h2 : depthL (l.map D.bl) = 0 := by
    clear hl h1
    induction l with
    | nil => rfl
    | cons x xs ih => rw [List.map_cons, depthL, ih]; rfl
  exact same_lst h1 (by simp; omega) (by omega)
theorem s24 {n : Nat} (hn : 10 ≤ n) {ρ : Env} (hl : ρ.length = 26) {k : Nat} (hk : k < 50) (h14 : gv ρ 14 = some (.lst ((od1 k).map Prod.fst))) : evS (evF fs WFU n) WFU st24 ρ = .next ρ := by
  have c1 := odd_comp (f := 1) (by omega) hl (od1_ok (n := n) (by omega) hk) (e_var h14)
  have e2 : evE (evF fs WFU n) (.bin .add (.lst [(.con (.bl true)), (.con (.bl true))]) (.bin .mul (.lst [(.con (.bl false))]) (.con (.int 7)))) ρ = .ok (.lst ([true, true, false, false, false, false, false, false, false].map .bl)) ρ := rfl
  have c1' : evE (evF fs WFU n) (.comp (.call 1 [.bor] [(.var 25)]) (.name 25) (.var 14) [] [25]) ρ = .ok (.lst ([true, true, false, false, false, false, false, false, false].map .bl)) ρ := c1
  have sm := sm_bl (n := n) hn [true, true, false, false, false, false, false, false, false] (by simp)
  refine s_skip ?_
  generalize (.lst ([true, true, false, false, false, false, false, false, false].map .bl) : D) = dd at c1' e2 sm
  have key : ∀ x1 x2 : E, (∀ i, x1 ≠ .bvar i) → (∀ i, x2 ≠ .bvar i) → evE (evF fs WFU n) x1 ρ = .ok dd ρ → evE (evF fs WFU n) x2 ρ = .ok dd ρ → evE (evF fs WFU n) (.not_ (.call 19 [.bor, .bor] [x1, x2])) ρ = .ok (.bl false) ρ := fun x1 x2 b1 b2 h1 h2 => by
    have : reread [x1, x2] [dd, dd] ρ = some [dd, dd] := by
      cases x1 <;> cases x2 <;> simp_all [reread]
    simp [evE, evEs, Out.bind, h1, h2, this, sm, lift, truthD]
    cases x1 <;> cases x2 <;> rfl
  exact key _ _ (by simp) (by simp) c1' e2
def od2 (F : RS) : List (D × Bool) := [(enc F, true), (encl F, false), (enc [(1, 2), (4, 5)], true), (enc [(1, 2), (3, 5)], false), (enc [(4, 5), (1, 2)], false), (enc [(2, 1)], false), (.tup [.non], false), (.non, false), (enc [(1, 3), (2, 5)], false)]
theorem s25 {n : Nat} {ρ : Env} {F : RS} (h : gv ρ 17 = some (enc F)) : evS (evF fs WFU n) WFU st25 ρ = .next (ρ.set 14 (some (.lst ((od2 F).map Prod.fst)))) := by
  have ha : opB .list [enc F] = some (encl F) := rfl
  simp only [st25, evS, evE, evEs, Out.bind, Out.toS, lift, h, ha, bindT]
  rfl
theorem sg_nt {n : Nat} (hn : 2 ≤ n) {d : D} (h : isTy d .tuple = some false) : evF fs WFU n 2 [d] = .ok (.bl false) [] := by
  obtain ⟨n, rfl⟩ := Nat.exists_eq_add_of_le' (show 1 ≤ n by omega)
  rw [cf_eq (g := f_is_signs) rfl rfl]
  simp [f_is_signs, startE, evSs, evS, testE, evE, evEs, evOr, Out.bind, Out.toS, SOut.then, lift, gv, finE, outsOf, h, truthD]
theorem od2_ok {n : Nat} (hn : 10 ≤ n) {F : RS} (hF : Canon 0 F) : ∀ q ∈ od2 F, evF fs WFU n 2 [q.1] = .ok (.bl q.2) [] := by
  intro q hq
  simp only [od2, List.mem_cons, List.not_mem_nil, or_false] at hq
  have e10 := hn
  obtain ⟨n, rfl⟩ := Nat.exists_eq_add_of_le' (show 4 ≤ n by omega)
  rcases hq with e | e | e | e | e | e | e | e | e <;> subst e
  · exact l_is_signs (by omega) hF
  · exact sg_nt (by omega) rfl
  · rfl
  · rfl
  · rfl
  · rfl
  · rfl
  · exact sg_nt (by omega) rfl
  · rfl
theorem same_call {n : Nat} (hn : 10 ≤ n) {ρ : Env} {l : List Bool} (hl : l.length ≤ 1000) {x1 x2 : E} (b1 : ∀ i, x1 ≠ .bvar i) (b2 : ∀ i, x2 ≠ .bvar i) (h1 : evE (evF fs WFU n) x1 ρ = .ok (.lst (l.map .bl)) ρ) (h2 : evE (evF fs WFU n) x2 ρ = .ok (.lst (l.map .bl)) ρ) : evE (evF fs WFU n) (.call 19 [.bor, .bor] [x1, x2]) ρ = .ok (.bl true) ρ := by
  have sm := sm_bl (n := n) hn l hl
  generalize (.lst (l.map .bl) : D) = dd at h1 h2 sm
  have : reread [x1, x2] [dd, dd] ρ = some [dd, dd] := by
    cases x1 <;> cases x2 <;> simp_all [reread]
  simp [evE, evEs, Out.bind, h1, h2, this, sm, lift, truthD]
  cases x1 <;> cases x2 <;> rfl
theorem s26 {n : Nat} (hn : 10 ≤ n) {ρ : Env} (hl : ρ.length = 26) {F : RS} (hF : Canon 0 F) (h14 : gv ρ 14 = some (.lst ((od2 F).map Prod.fst))) : evS (evF fs WFU n) WFU st26 ρ = .next ρ := by
  have c1 := odd_comp (f := 2) (by omega) hl (od2_ok (n := n) (by omega) hF) (e_var h14)
  have e2 : evE (evF fs WFU n) (.bin .add (.lst [(.con (.bl true)), (.con (.bl false)), (.con (.bl true))]) (.bin .mul (.lst [(.con (.bl false))]) (.con (.int 6)))) ρ = .ok (.lst ([true, false, true, false, false, false, false, false, false].map .bl)) ρ := rfl
  have h := same_call (n := n) hn (l := [true, false, true, false, false, false, false, false, false]) (by simp) (by simp) (by simp) c1 e2
  refine s_skip ?_
  generalize E.call 19 _ _ = x1 at h ⊢
  simp [evE, h, Out.bind, lift, truthD]
def od3 : List (D × Bool) := [(.int 0, true), (.int 7, true), (.int (-1), false), (.bl true, false), (.non, false), (.str [49], false)]
theorem od3_ok {n : Nat} (hn : 1 ≤ n) : ∀ q ∈ od3, evF fs WFU n 0 [q.1] = .ok (.bl q.2) [] := by
  intro q hq
  simp only [od3, List.mem_cons, List.not_mem_nil, or_false] at hq
  rcases hq with e | e | e | e | e | e <;> subst e <;> exact l_is_count hn _ rfl
theorem s27 {n : Nat} (hn : 10 ≤ n) {ρ : Env} (hl : ρ.length = 26) : evS (evF fs WFU n) WFU st27 ρ = .ret (.bl true) ρ := by
  have c1 := odd_comp (f := 0) (by omega) hl (od3_ok (n := n) (by omega)) (it := (.lst [(.con (.int 0)), (.con (.int 7)), (.neg (.con (.int 1))), (.con (.bl true)), (.con .non), (.con (.str [49]))])) rfl
  have e2 : evE (evF fs WFU n) (.bin .add (.lst [(.con (.bl true)), (.con (.bl true))]) (.bin .mul (.lst [(.con (.bl false))]) (.con (.int 4)))) ρ = .ok (.lst ([true, true, false, false, false, false].map .bl)) ρ := rfl
  have h := same_call (n := n) hn (l := [true, true, false, false, false, false]) (by simp) (by simp) (by simp) c1 e2
  unfold st27
  generalize E.call 19 _ _ = x1 at h ⊢
  simp [evS, h, Out.toS]
end K01
end -- K01EL

section -- K01EM
set_option Elab.async false
set_option linter.all false
set_option maxRecDepth 100000
set_option maxHeartbeats 4000000
namespace K01
open Ev K01M
theorem ss_step {c : CF} {s : S} {ss : List S} {ρ ρ' : Env} {o : SOut} (h : evS c WFU s ρ = .next ρ') (h2 : evSs c WFU ss ρ' = o) : evSs c WFU (s :: ss) ρ = o := by
  rw [evSs, h]; exact h2
theorem law_body {n : Nat} (hn : 10 ≤ n) (ns : List Int) : ∃ ρ, evSs (evF fs WFU n) WFU f_law.body (startE 26 [.lst (ns.map .int)]) = .ret (.bl true) ρ := by
  have h0 := s0 (c := evF fs WFU n) ns
  have hl0 : (startE 26 [.lst (ns.map .int)]).length = 26 := rfl
  generalize startE 26 [.lst (ns.map .int)] = ρ0 at h0 hl0 ⊢
  rw [st_eq]
  have T0 : IsTape ns (TP ns 0 0 1) := ⟨_, _, _, rfl, Int.le_refl 0⟩
  obtain ⟨A, B, t1, h1, T1, hA, hAl, hB, hBl⟩ := s1 (n := n) hn (ρ := ρ0.set 1 (some (TP ns 0 0 1))) (by simp [hl0]) (gv_eq (by omega)) T0
  obtain ⟨cF, mF⟩ := sb_ok hA
  obtain ⟨cG, mG⟩ := sb_ok hB
  have eA : cod A = cod (sb A) := (cod_congr mF).symm
  have eB : cod B = cod (sb B) := (cod_congr mG).symm
  obtain ⟨F, hF⟩ : ∃ F, F = sb A := ⟨_, rfl⟩
  obtain ⟨G, hG⟩ : ∃ G, G = sb B := ⟨_, rfl⟩
  obtain ⟨ρ2, e2⟩ : ∃ ρ2, ρ2 = (((ρ0.set 1 (some (TP ns 0 0 1))).set 1 (some t1)).set 15 (some (encl A))).set 16 (some (encl B)) := ⟨_, rfl⟩
  rw [← e2] at h1
  have l2 : ρ2.length = 26 := by rw [e2]; simp [hl0]
  have a1 : gv ρ2 1 = some t1 := by rw [e2]; simp [gv_ne, gv_eq, hl0]
  have a15 : gv ρ2 15 = some (encl A) := by rw [e2]; simp [gv_ne, gv_eq, hl0]
  have a16 : gv ρ2 16 = some (encl B) := by rw [e2]; simp [gv_ne, gv_eq, hl0]
  have h2 := s2 (n := n) hn (ρ := ρ2) hAl hBl a15 a16
  rw [← hF, ← hG] at h2
  obtain ⟨ρ3, e3⟩ : ∃ ρ3, ρ3 = (ρ2.set 17 (some (enc F))).set 18 (some (enc G)) := ⟨_, rfl⟩
  rw [← e3] at h2
  have h3 := s3 (n := n) hn (ρ := ρ3) (A := A) (B := B) (by rw [e3]; simp [gv_ne, a15]) (by rw [e3]; simp [gv_ne, a16])
  rw [eA, eB, ← hF, ← hG] at h3
  obtain ⟨ρ4, e4⟩ : ∃ ρ4, ρ4 = ((ρ3.set 19 (some (cI (cod F)))).set 20 (some (cI (cod G)))).set 21 (some (cI (List.range 97))) := ⟨_, rfl⟩
  rw [← e4] at h3
  have l4 : ρ4.length = 26 := by rw [e4, e3]; simp [l2]
  have b1 : gv ρ4 1 = some t1 := by rw [e4, e3]; simp [gv_ne, a1]
  have b15 : gv ρ4 15 = some (encl A) := by rw [e4, e3]; simp [gv_ne, a15]
  have b17 : gv ρ4 17 = some (enc F) := by rw [e4, e3]; simp [gv_ne, gv_eq, l2]
  have b18 : gv ρ4 18 = some (enc G) := by rw [e4, e3]; simp [gv_ne, gv_eq, l2]
  have b19 : gv ρ4 19 = some (cI (cod F)) := by rw [e4, e3]; simp [gv_ne, gv_eq, l2]
  have b20 : gv ρ4 20 = some (cI (cod G)) := by rw [e4, e3]; simp [gv_ne, gv_eq, l2]
  have b21 : gv ρ4 21 = some (cI (List.range 97)) := by rw [e4, e3]; simp [gv_ne, gv_eq, l2]
  have h4 := s4 (n := n) hn (ρ := ρ4) hA hB hAl b15 (by rw [b17, hF]) (by rw [b18, hG]) (by rw [b19, eA, hF])
  have cF : Canon 0 F := hF ▸ cF
  have cG : Canon 0 G := hG ▸ cG
  have h5 := s5 (n := n) hn (ρ := ρ4) cF cG b17 b18
  obtain ⟨ρ5, e5⟩ : ∃ ρ5, ρ5 = ρ4.set 2 (some (.lst [enc (un F G), enc (bo F G), enc (le F G), enc (oth F)])) := ⟨_, rfl⟩
  rw [← e5] at h5
  have h6 := s6 (n := n) (ρ := ρ5) (a := cod F) (b := cod G) (w := List.range 97) (by rw [e5]; simp [l4]) (by rw [e5]; simp [gv_ne, b19]) (by rw [e5]; simp [gv_ne, b20]) (by rw [e5]; simp [gv_ne, b21])
  rw [due1 cF cG, due2 cF cG, due3 cF cG, due4 cF] at h6
  obtain ⟨ρ6, e6⟩ : ∃ ρ6, ρ6 = ρ5.set 3 (some (.lst [cI (cod (un F G)), cI (cod (bo F G)), cI (cod (le F G)), cI (cod (oth F))])) := ⟨_, rfl⟩
  rw [← e6] at h6
  have l6 : ρ6.length = 26 := by rw [e6, e5]; simp [l4]
  have h7 := s7 (n := n) hn (ρ := ρ6) l6 (Xs := [un F G, bo F G, le F G, oth F]) (fun x hx => by
    simp at hx
    rcases hx with e | e | e | e <;> subst e
    · exact (un_ok cF cG).1
    · exact (bo_ok cF cG).1
    · exact (le_ok cF cG).1
    · exact (oth_ok cF).1) rfl (by rw [e6, e5]; simp [gv_ne, gv_eq, l4, encs]) (by rw [e6, e5]; simp [gv_ne, gv_eq, l4])
  have c1 : gv ρ6 1 = some t1 := by rw [e6, e5]; simp [gv_ne, b1]
  have c17 : gv ρ6 17 = some (enc F) := by rw [e6, e5]; simp [gv_ne, b17]
  have c18 : gv ρ6 18 = some (enc G) := by rw [e6, e5]; simp [gv_ne, b18]
  have c19 : gv ρ6 19 = some (cI (cod F)) := by rw [e6, e5]; simp [gv_ne, b19]
  have c20 : gv ρ6 20 = some (cI (cod G)) := by rw [e6, e5]; simp [gv_ne, b20]
  have c21 : gv ρ6 21 = some (cI (List.range 97)) := by rw [e6, e5]; simp [gv_ne, b21]
  have h8 := s8 (n := n) hn (ρ := ρ6) cF c17
  obtain ⟨ρ8, e8⟩ : ∃ ρ8, ρ8 = ρ6.set 2 (some (.lst [.int (sumR F), .int (sumR (oth F)), leastM F, enc [(0, 96)], .str PL, .int 96])) := ⟨_, rfl⟩
  rw [← e8] at h8
  have h9 := s9 (c := evF fs WFU n) (ρ := ρ8)
  obtain ⟨ρ9, e9⟩ : ∃ ρ9, ρ9 = ρ8.set 4 (some (.str PL)) := ⟨_, rfl⟩
  rw [← e9] at h9
  have l9 : ρ9.length = 26 := by rw [e9, e8]; simp [l6]
  have d1 : gv ρ9 1 = some t1 := by rw [e9, e8]; simp [gv_ne, c1]
  have d17 : gv ρ9 17 = some (enc F) := by rw [e9, e8]; simp [gv_ne, c17]
  have d18 : gv ρ9 18 = some (enc G) := by rw [e9, e8]; simp [gv_ne, c18]
  have d19 : gv ρ9 19 = some (cI (cod F)) := by rw [e9, e8]; simp [gv_ne, c19]
  have d20 : gv ρ9 20 = some (cI (cod G)) := by rw [e9, e8]; simp [gv_ne, c20]
  have d21 : gv ρ9 21 = some (cI (List.range 97)) := by rw [e9, e8]; simp [gv_ne, c21]
  have h10 := s10 (n := n) hn (ρ := ρ9) cF (by rw [e9, e8]; simp [gv_ne, gv_eq, l6]) (by rw [e9]; exact gv_eq (by rw [e8]; simp [l6])) d19
  obtain ⟨k, t2, h11, hk, T2⟩ := s11 (n := n) hn (ρ := ρ9) d1 T1
  obtain ⟨ρ11, e11⟩ : ∃ ρ11, ρ11 = (ρ9.set 1 (some t2)).set 5 (some (iN k)) := ⟨_, rfl⟩
  rw [← e11] at h11
  have h12 := s12 (n := n) hn (ρ := ρ11) hk (by rw [e11]; exact gv_eq (by simp [l9]))
  obtain ⟨ρ12, e12⟩ : ∃ ρ12, ρ12 = ρ11.set 6 (some (.str [sg k])) := ⟨_, rfl⟩
  rw [← e12] at h12
  have l12 : ρ12.length = 26 := by rw [e12, e11]; simp [l9]
  obtain ⟨js, t3, h13, hj, hjl, T3⟩ := s13 (n := n) hn (ρ := ρ12) l12 (t := t2) (by rw [e12, e11]; simp [gv_ne, gv_eq, l9]) T2
  obtain ⟨ρ13, e13⟩ : ∃ ρ13, ρ13 = (ρ12.set 1 (some t3)).set 7 (some (.str (js.map sg))) := ⟨_, rfl⟩
  rw [← e13] at h13
  have l13 : ρ13.length = 26 := by rw [e13]; simp [l12]
  have h14 := s14 (n := n) hn (ρ := ρ13) l13 hj hjl (by rw [e13]; exact gv_eq (by simp [l12]))
  obtain ⟨ρ14, e14⟩ : ∃ ρ14, ρ14 = ρ13.set 8 (some (cI (cod (sb (prs js))))) := ⟨_, rfl⟩
  rw [← e14] at h14
  have l14 : ρ14.length = 26 := by rw [e14]; simp [l13]
  have f1 : gv ρ14 1 = some t3 := by rw [e14, e13]; simp [gv_ne, gv_eq, l12]
  have f5 : gv ρ14 5 = some (iN k) := by rw [e14, e13, e12, e11]; simp [gv_ne, gv_eq, l9]
  have f6 : gv ρ14 6 = some (.str [sg k]) := by rw [e14, e13, e12, e11]; simp [gv_ne, gv_eq, l9]
  have f7 : gv ρ14 7 = some (.str (js.map sg)) := by rw [e14, e13]; simp [gv_ne, gv_eq, l12]
  have f8 : gv ρ14 8 = some (cI (cod (sb (prs js)))) := by rw [e14]; exact gv_eq (by omega)
  have f17 : gv ρ14 17 = some (enc F) := by rw [e14, e13, e12, e11]; simp [gv_ne, d17]
  have f18 : gv ρ14 18 = some (enc G) := by rw [e14, e13, e12, e11]; simp [gv_ne, d18]
  have f19 : gv ρ14 19 = some (cI (cod F)) := by rw [e14, e13, e12, e11]; simp [gv_ne, d19]
  have f20 : gv ρ14 20 = some (cI (cod G)) := by rw [e14, e13, e12, e11]; simp [gv_ne, d20]
  have f21 : gv ρ14 21 = some (cI (List.range 97)) := by rw [e14, e13, e12, e11]; simp [gv_ne, d21]
  have h15 := s15 (n := n) hn (ρ := ρ14) hk hj hjl f5 f6 f7 f8 f17 f19
  have h16 := s16 (n := n) hn (ρ := ρ14) l14 hj hjl f7
  have h17 := s17 (n := n) hn (ρ := ρ14) cF cG f17 f18
  obtain ⟨ρ17, e17⟩ : ∃ ρ17, ρ17 = ρ14.set 9 (some (encs (sortR (clsM F G)))) := ⟨_, rfl⟩
  rw [← e17] at h17
  have l17 : ρ17.length = 26 := by rw [e17]; simp [l14]
  have h18 := s18 (n := n) hn (ρ := ρ17) l17 (F := F) (G := G) (by rw [e17]; simp [gv_ne, f19]) (by rw [e17]; simp [gv_ne, f20]) (by rw [e17]; simp [gv_ne, f21])
  obtain ⟨ρ18, e18⟩ : ∃ ρ18, ρ18 = ρ17.set 10 (some (nmsD F G)) := ⟨_, rfl⟩
  rw [← e18] at h18
  have l18 : ρ18.length = 26 := by rw [e18]; simp [l17]
  have h19 := s19 (n := n) hn (ρ := ρ18) l18 (F := F) (G := G) (by rw [e18]; exact gv_eq (by omega))
  obtain ⟨ρ19, e19⟩ : ∃ ρ19, ρ19 = ρ18.set 11 (some (.lst ((knd F G).map encB))) := ⟨_, rfl⟩
  rw [← e19] at h19
  have l19 : ρ19.length = 26 := by rw [e19]; simp [l18]
  have g9 : gv ρ19 9 = some (encs (sortR (clsM F G))) := by rw [e19, e18, e17]; simp [gv_ne, gv_eq, l14]
  have h20 := s20 (n := n) hn (ρ := ρ19) cF cG g9 (by rw [e19]; exact gv_eq (by omega))
  have K : Kp F G t3 ρ19 := ⟨l19, g9, by rw [e19, e18]; simp [gv_ne, gv_eq, l17], by rw [e19, e18, e17]; simp [gv_ne, f21], by rw [e19, e18, e17]; simp [gv_ne, f1], by rw [e19, e18, e17]; simp [gv_ne, f17]⟩
  obtain ⟨ρ21, h21, K21⟩ := s21 (n := n) hn cF cG K
  obtain ⟨lo, t4, h22, hlo⟩ := s22 (n := n) hn (ρ := ρ21) K21.h1 T3
  have l21 := K21.len
  obtain ⟨ρ22, e22⟩ : ∃ ρ22, ρ22 = (ρ21.set 1 (some t4)).set 13 (some (iN lo)) := ⟨_, rfl⟩
  rw [← e22] at h22
  have l22 : ρ22.length = 26 := by rw [e22]; simp [l21]
  have h23 := s23 (n := n) (ρ := ρ22) (k := lo) (by rw [e22]; exact gv_eq (by simp [l21]))
  obtain ⟨ρ23, e23⟩ : ∃ ρ23, ρ23 = ρ22.set 14 (some (.lst ((od1 lo).map Prod.fst))) := ⟨_, rfl⟩
  rw [← e23] at h23
  have l23 : ρ23.length = 26 := by rw [e23]; simp [l22]
  have h24 := s24 (n := n) hn (ρ := ρ23) l23 hlo (by rw [e23]; exact gv_eq (by omega))
  have h25 := s25 (n := n) (ρ := ρ23) (F := F) (by rw [e23, e22]; simp [gv_ne, K21.h17])
  obtain ⟨ρ25, e25⟩ : ∃ ρ25, ρ25 = ρ23.set 14 (some (.lst ((od2 F).map Prod.fst))) := ⟨_, rfl⟩
  rw [← e25] at h25
  have l25 : ρ25.length = 26 := by rw [e25]; simp [l23]
  have h26 := s26 (n := n) hn (ρ := ρ25) l25 cF (by rw [e25]; exact gv_eq (by omega))
  have h27 := s27 (n := n) hn (ρ := ρ25) l25
  refine ⟨ρ25, ?_⟩
  exact ss_step h0 (ss_step h1 (ss_step h2 (ss_step h3 (ss_step h4 (ss_step h5 (ss_step h6 (ss_step h7 (ss_step h8 (ss_step h9 (ss_step h10 (ss_step h11 (ss_step h12 (ss_step h13 (ss_step h14 (ss_step h15 (ss_step h16 (ss_step h17 (ss_step h18 (ss_step h19 (ss_step h20 (ss_step h21 (ss_step h22 (ss_step h23 (ss_step h24 (ss_step h25 (ss_step h26 (by rw [evSs, h27]; rfl)))))))))))))))))))))))))))
theorem law_true (ns : List Int) (hl : ns.length ≤ 63) : ∃ outs, evF fs WFU LVL 24 [.lst (ns.map .int)] = .ok (.bl true) outs := by
  obtain ⟨ρ, h⟩ := law_body (n := 19) (by omega) ns
  refine ⟨outsOf [.bor] ρ, ?_⟩
  show evF fs WFU (19 + 1) 24 _ = _
  rw [cf_eq (g := f_law) rfl rfl]
  show finE [.bor] (evSs (evF fs WFU 19) WFU f_law.body (startE 26 [.lst (ns.map .int)])) = _
  rw [h]
  rfl
end K01
end -- K01EM

section -- tail
set_option Elab.async false
set_option linter.all false
set_option maxRecDepth 100000
set_option maxHeartbeats 4000000
namespace K01
open PySem PySem.Spec PyProof.Rows L2 Ev
def stm (i : Nat) : Stmt := PySem.Challenge.pw_pegwright_k01_whole_sets_of_signs.main.body.getD i (.Pass ⟨0, 0, 0, 0⟩)
def fnT : List FnE := [⟨"is_count", 0, [.bor], false⟩, ⟨"is_range", 1, [.bor], true⟩, ⟨"is_signs", 2, [.bor], true⟩, ⟨"is_text", 3, [.bor], false⟩, ⟨"sign_number", 4, [.bor], true⟩, ⟨"sign_of", 5, [.bor], false⟩, ⟨"signs_by", 6, [.bor], true⟩, ⟨"signs_in", 7, [.bor], true⟩, ⟨"every_sign", 8, [], true⟩, ⟨"union_signs", 9, [.bor, .bor], true⟩, ⟨"other_signs", 10, [.bor], true⟩, ⟨"both_signs", 11, [.bor, .bor], true⟩, ⟨"less_signs", 12, [.bor, .bor], true⟩, ⟨"has_sign", 13, [.bor, .bor], true⟩, ⟨"sign_count", 14, [.bor], true⟩, ⟨"least_sign", 15, [.bor], false⟩, ⟨"sign_classes", 16, [.bor], true⟩, ⟨"class_of", 17, [.bor, .bor], false⟩, ⟨"_law_next", 18, [.io, .bor], true⟩, ⟨"_law_same", 19, [.bor, .bor], false⟩, ⟨"_law_signs", 20, [], false⟩, ⟨"_law_ranges", 21, [.io], true⟩, ⟨"_law_codes", 22, [.bor], true⟩, ⟨"_law_least_one", 23, [.bor], false⟩, ⟨"law", 24, [.bor], false⟩]
def gT : List (Str × Ev.D) := [("SIGNS", g_SIGNS), ("LAST", g_LAST)]
def ckOf (i : Nat) (N : List Str) (M : List Mode) (fresh : Bool) : Ck := { N := N, M := M, sc := defScope (stm i), blk := none, fresh := fresh, fns := fnT, gs := gT }
def c_is_count : Ck := ckOf 3 ["value"] [.bor] false
theorem t_is_count : compS.compSs (compS 60 c_is_count) (defBody (stm 3)) = some f_is_count.body := by rfl
theorem s_is_count : FnScope ["value"] ["value"] (defScope (stm 3)) := ⟨rfl, rfl, rfl, by decide +kernel, rfl, by decide +kernel, by decide +kernel⟩
def c_is_range : Ck := ckOf 4 ["value"] [.bor] true
theorem t_is_range : compS.compSs (compS 60 c_is_range) (defBody (stm 4)) = some f_is_range.body := by rfl
theorem s_is_range : FnScope ["value"] ["value"] (defScope (stm 4)) := ⟨rfl, rfl, rfl, by decide +kernel, rfl, by decide +kernel, by decide +kernel⟩
def c_is_signs : Ck := ckOf 5 ["value", "k", "one"] [.bor, .shr, .shr] true
theorem t_is_signs : compS.compSs (compS 60 c_is_signs) (defBody (stm 5)) = some f_is_signs.body := by rfl
theorem s_is_signs : FnScope ["value", "k", "one"] ["value"] (defScope (stm 5)) := ⟨rfl, rfl, rfl, by decide +kernel, rfl, by decide +kernel, by decide +kernel⟩
def c_is_text : Ck := ckOf 6 ["value", "one"] [.bor, .shr] false
theorem t_is_text : compS.compSs (compS 60 c_is_text) (defBody (stm 6)) = some f_is_text.body := by rfl
theorem s_is_text : FnScope ["value", "one"] ["value"] (defScope (stm 6)) := ⟨rfl, rfl, rfl, by decide +kernel, rfl, by decide +kernel, by decide +kernel⟩
def c_sign_number : Ck := ckOf 7 ["sign"] [.bor] true
theorem t_sign_number : compS.compSs (compS 60 c_sign_number) (defBody (stm 7)) = some f_sign_number.body := by rfl
theorem s_sign_number : FnScope ["sign"] ["sign"] (defScope (stm 7)) := ⟨rfl, rfl, rfl, by decide +kernel, rfl, by decide +kernel, by decide +kernel⟩
def c_sign_of : Ck := ckOf 8 ["number"] [.bor] false
theorem t_sign_of : compS.compSs (compS 60 c_sign_of) (defBody (stm 8)) = some f_sign_of.body := by rfl
theorem s_sign_of : FnScope ["number"] ["number"] (defScope (stm 8)) := ⟨rfl, rfl, rfl, by decide +kernel, rfl, by decide +kernel, by decide +kernel⟩
def c_signs_by : Ck := ckOf 9 ["ranges", "found", "low", "high"] [.bor, .own, .shr, .shr] true
theorem t_signs_by : compS.compSs (compS 60 c_signs_by) (defBody (stm 9)) = some f_signs_by.body := by rfl
theorem s_signs_by : FnScope ["ranges", "found", "low", "high"] ["ranges"] (defScope (stm 9)) := ⟨rfl, rfl, rfl, by decide +kernel, rfl, by decide +kernel, by decide +kernel⟩
def c_signs_in : Ck := ckOf 10 ["text", "one"] [.bor, .shr] true
theorem t_signs_in : compS.compSs (compS 60 c_signs_in) (defBody (stm 10)) = some f_signs_in.body := by rfl
theorem s_signs_in : FnScope ["text", "one"] ["text"] (defScope (stm 10)) := ⟨rfl, rfl, rfl, by decide +kernel, rfl, by decide +kernel, by decide +kernel⟩
def c_every_sign : Ck := ckOf 11 [] [] true
theorem t_every_sign : compS.compSs (compS 60 c_every_sign) (defBody (stm 11)) = some f_every_sign.body := by rfl
theorem s_every_sign : FnScope [] [] (defScope (stm 11)) := ⟨rfl, rfl, rfl, by decide +kernel, rfl, by decide +kernel, by decide +kernel⟩
def c_union_signs : Ck := ckOf 12 ["first", "second"] [.bor, .bor] true
theorem t_union_signs : compS.compSs (compS 60 c_union_signs) (defBody (stm 12)) = some f_union_signs.body := by rfl
theorem s_union_signs : FnScope ["first", "second"] ["first", "second"] (defScope (stm 12)) := ⟨rfl, rfl, rfl, by decide +kernel, rfl, by decide +kernel, by decide +kernel⟩
def c_other_signs : Ck := ckOf 13 ["signs", "found", "here", "low", "high"] [.bor, .own, .shr, .shr, .shr] true
theorem t_other_signs : compS.compSs (compS 60 c_other_signs) (defBody (stm 13)) = some f_other_signs.body := by rfl
theorem s_other_signs : FnScope ["signs", "found", "here", "low", "high"] ["signs"] (defScope (stm 13)) := ⟨rfl, rfl, rfl, by decide +kernel, rfl, by decide +kernel, by decide +kernel⟩
def c_both_signs : Ck := ckOf 14 ["first", "second"] [.bor, .bor] true
theorem t_both_signs : compS.compSs (compS 60 c_both_signs) (defBody (stm 14)) = some f_both_signs.body := by rfl
theorem s_both_signs : FnScope ["first", "second"] ["first", "second"] (defScope (stm 14)) := ⟨rfl, rfl, rfl, by decide +kernel, rfl, by decide +kernel, by decide +kernel⟩
def c_less_signs : Ck := ckOf 15 ["first", "second"] [.bor, .bor] true
theorem t_less_signs : compS.compSs (compS 60 c_less_signs) (defBody (stm 15)) = some f_less_signs.body := by rfl
theorem s_less_signs : FnScope ["first", "second"] ["first", "second"] (defScope (stm 15)) := ⟨rfl, rfl, rfl, by decide +kernel, rfl, by decide +kernel, by decide +kernel⟩
def c_has_sign : Ck := ckOf 16 ["signs", "sign", "number", "low", "high"] [.bor, .bor, .shr, .shr, .shr] true
theorem t_has_sign : compS.compSs (compS 60 c_has_sign) (defBody (stm 16)) = some f_has_sign.body := by rfl
theorem s_has_sign : FnScope ["signs", "sign", "number", "low", "high"] ["signs", "sign"] (defScope (stm 16)) := ⟨rfl, rfl, rfl, by decide +kernel, rfl, by decide +kernel, by decide +kernel⟩
def c_sign_count : Ck := ckOf 17 ["signs", "low", "high"] [.bor, .shr, .shr] true
theorem t_sign_count : compS.compSs (compS 60 c_sign_count) (defBody (stm 17)) = some f_sign_count.body := by rfl
theorem s_sign_count : FnScope ["signs", "low", "high"] ["signs"] (defScope (stm 17)) := ⟨rfl, rfl, rfl, by decide +kernel, rfl, by decide +kernel, by decide +kernel⟩
def c_least_sign : Ck := ckOf 18 ["signs", "some", "both"] [.bor, .shr, .shr] false
theorem t_least_sign : compS.compSs (compS 60 c_least_sign) (defBody (stm 18)) = some f_least_sign.body := by rfl
theorem s_least_sign : FnScope ["signs", "some", "both"] ["signs"] (defScope (stm 18)) := ⟨rfl, rfl, rfl, by decide +kernel, rfl, by decide +kernel, by decide +kernel⟩
def c_sign_classes : Ck := ckOf 19 ["sets", "found", "one", "later", "some", "part"] [.bor, .shr, .shr, .own, .shr, .shr] true
theorem t_sign_classes : compS.compSs (compS 60 c_sign_classes) (defBody (stm 19)) = some f_sign_classes.body := by rfl
theorem s_sign_classes : FnScope ["sets", "found", "one", "later", "some", "part"] ["sets"] (defScope (stm 19)) := ⟨rfl, rfl, rfl, by decide +kernel, rfl, by decide +kernel, by decide +kernel⟩
def c_class_of : Ck := ckOf 20 ["classes", "sign", "k"] [.bor, .bor, .shr] false
theorem t_class_of : compS.compSs (compS 60 c_class_of) (defBody (stm 20)) = some f_class_of.body := by rfl
theorem s_class_of : FnScope ["classes", "sign", "k"] ["classes", "sign"] (defScope (stm 20)) := ⟨rfl, rfl, rfl, by decide +kernel, rfl, by decide +kernel, by decide +kernel⟩
def c__law_next : Ck := ckOf 22 ["tape", "many", "rest", "cell"] [.io, .bor, .shr, .shr] true
theorem t__law_next : compS.compSs (compS 60 c__law_next) (defBody (stm 22)) = some f__law_next.body := by rfl
theorem s__law_next : FnScope ["tape", "many", "rest", "cell"] ["tape", "many"] (defScope (stm 22)) := ⟨rfl, rfl, rfl, by decide +kernel, rfl, by decide +kernel, by decide +kernel⟩
def c__law_same : Ck := ckOf 23 ["told", "due", "k"] [.bor, .bor, .shr] false
theorem t__law_same : compS.compSs (compS 60 c__law_same) (defBody (stm 23)) = some f__law_same.body := by rfl
theorem s__law_same : FnScope ["told", "due", "k"] ["told", "due"] (defScope (stm 23)) := ⟨rfl, rfl, rfl, by decide +kernel, rfl, by decide +kernel, by decide +kernel⟩
def c__law_signs : Ck := ckOf 24 [] [] false
theorem t__law_signs : compS.compSs (compS 60 c__law_signs) (defBody (stm 24)) = some f__law_signs.body := by rfl
theorem s__law_signs : FnScope [] [] (defScope (stm 24)) := ⟨rfl, rfl, rfl, by decide +kernel, rfl, by decide +kernel, by decide +kernel⟩
def c__law_ranges : Ck := ckOf 25 ["tape", "found", "k", "low"] [.io, .own, .shr, .shr] true
theorem t__law_ranges : compS.compSs (compS 60 c__law_ranges) (defBody (stm 25)) = some f__law_ranges.body := by rfl
theorem s__law_ranges : FnScope ["tape", "found", "k", "low"] ["tape"] (defScope (stm 25)) := ⟨rfl, rfl, rfl, by decide +kernel, rfl, by decide +kernel, by decide +kernel⟩
def c__law_codes : Ck := ckOf 26 ["ranges", "code", "low", "high"] [.bor, .shr, .shr, .shr] true
theorem t__law_codes : compS.compSs (compS 60 c__law_codes) (defBody (stm 26)) = some f__law_codes.body := by rfl
theorem s__law_codes : FnScope ["ranges", "code", "low", "high"] ["ranges"] (defScope (stm 26)) := ⟨rfl, rfl, rfl, by decide +kernel, rfl, by decide +kernel, by decide +kernel⟩
def c__law_least_one : Ck := ckOf 27 ["codes", "order", "fits", "rest", "sign", "code"] [.bor, .shr, .shr, .shr, .shr, .shr] false
theorem t__law_least_one : compS.compSs (compS 60 c__law_least_one) (defBody (stm 27)) = some f__law_least_one.body := by rfl
theorem s__law_least_one : FnScope ["codes", "order", "fits", "rest", "sign", "code"] ["codes"] (defScope (stm 27)) := ⟨rfl, rfl, rfl, by decide +kernel, rfl, by decide +kernel, by decide +kernel⟩
def c_law : Ck := ckOf 28 ["script", "tape", "told", "due", "plain", "code", "sign", "text", "codes", "classes", "names", "kinds", "part", "low", "odd", "one", "other", "first", "second", "a", "b", "whole", "inside", "name", "k", "value"] [.bor, .own, .shr, .shr, .shr, .shr, .shr, .shr, .shr, .shr, .shr, .shr, .shr, .shr, .shr, .shr, .shr, .shr, .shr, .shr, .shr, .shr, .shr, .shr, .shr, .shr] false
theorem t_law : compS.compSs (compS 60 c_law) (defBody (stm 28)) = some f_law.body := by rfl
theorem s_law : FnScope ["script", "tape", "told", "due", "plain", "code", "sign", "text", "codes", "classes", "names", "kinds", "part", "low", "odd", "one", "other", "first", "second", "a", "b", "whole", "inside", "name", "k", "value"] ["script"] (defScope (stm 28)) := ⟨rfl, rfl, rfl, by decide +kernel, rfl, by decide +kernel, by decide +kernel⟩
theorem all_mk {l : PySem.W.OpenLaw} {w : World} {K : PySem.W.Frag} {h : Heap} {mg : Str → Option Value} {fa : Addr} {wf n : Nat} (X : K.In h) (G : h.Ns mainGlobals mg) (hfa : mg "law" = some (.ref fa))
    {f0 f1 f2 f3 f4 f5 f6 f7 f8 f9 f10 f11 f12 f13 f14 f15 f16 f17 f18 f19 f20 f21 f22 f23 f24 : Addr} {od0 an0 od1 an1 od2 an2 od3 an3 od4 an4 od5 an5 od6 an6 od7 an7 od8 an8 od9 an9 od10 an10 od11 an11 od12 an12 od13 an13 od14 an14 od15 an15 od16 an16 od17 an17 od18 an18 od19 an19 od20 an20 od21 an21 od22 an22 od23 an23 od24 an24 : Option Addr} {sl0 sl1 sl2 sl3 sl4 sl5 sl6 sl7 sl8 sl9 sl10 sl11 sl12 sl13 sl14 sl15 sl16 sl17 sl18 sl19 sl20 sl21 sl22 sl23 sl24 : Array (Option Value)} {oc0 kV0 dc0 pm0 cd0 ct0 oc1 kV1 dc1 pm1 cd1 ct1 oc2 kV2 dc2 pm2 cd2 ct2 oc3 kV3 dc3 pm3 cd3 ct3 oc4 kV4 dc4 pm4 cd4 ct4 oc5 kV5 dc5 pm5 cd5 ct5 oc6 kV6 dc6 pm6 cd6 ct6 oc7 kV7 dc7 pm7 cd7 ct7 oc8 kV8 dc8 pm8 cd8 ct8 oc9 kV9 dc9 pm9 cd9 ct9 oc10 kV10 dc10 pm10 cd10 ct10 oc11 kV11 dc11 pm11 cd11 ct11 oc12 kV12 dc12 pm12 cd12 ct12 oc13 kV13 dc13 pm13 cd13 ct13 oc14 kV14 dc14 pm14 cd14 ct14 oc15 kV15 dc15 pm15 cd15 ct15 oc16 kV16 dc16 pm16 cd16 ct16 oc17 kV17 dc17 pm17 cd17 ct17 oc18 kV18 dc18 pm18 cd18 ct18 oc19 kV19 dc19 pm19 cd19 ct19 oc20 kV20 dc20 pm20 cd20 ct20 oc21 kV21 dc21 pm21 cd21 ct21 oc22 kV22 dc22 pm22 cd22 ct22 oc23 kV23 dc23 pm23 cd23 ct23 oc24 kV24 dc24 pm24 cd24 ct24 : Value}
    (a0 : PySem.W.nsIn K mainGlobals "is_count" = some (some (.ref f0))) (l0 : K.lookup f0 = some ⟨oc0, od0, .func (PySem.W.fnOf "is_count" "is_count" (defArgs (stm 3)) (defBody (stm 3)) (defScope (stm 3)) .none kV0 dc0 pm0 an0 cd0 ct0), sl0⟩) (c0 : PySem.W.codeIn K cd0 "is_count" = true) (k0 : PySem.W.keepIn K (.ref f0) = true)
    (a1 : PySem.W.nsIn K mainGlobals "is_range" = some (some (.ref f1))) (l1 : K.lookup f1 = some ⟨oc1, od1, .func (PySem.W.fnOf "is_range" "is_range" (defArgs (stm 4)) (defBody (stm 4)) (defScope (stm 4)) .none kV1 dc1 pm1 an1 cd1 ct1), sl1⟩) (c1 : PySem.W.codeIn K cd1 "is_range" = true) (k1 : PySem.W.keepIn K (.ref f1) = true)
    (a2 : PySem.W.nsIn K mainGlobals "is_signs" = some (some (.ref f2))) (l2 : K.lookup f2 = some ⟨oc2, od2, .func (PySem.W.fnOf "is_signs" "is_signs" (defArgs (stm 5)) (defBody (stm 5)) (defScope (stm 5)) .none kV2 dc2 pm2 an2 cd2 ct2), sl2⟩) (c2 : PySem.W.codeIn K cd2 "is_signs" = true) (k2 : PySem.W.keepIn K (.ref f2) = true)
    (a3 : PySem.W.nsIn K mainGlobals "is_text" = some (some (.ref f3))) (l3 : K.lookup f3 = some ⟨oc3, od3, .func (PySem.W.fnOf "is_text" "is_text" (defArgs (stm 6)) (defBody (stm 6)) (defScope (stm 6)) .none kV3 dc3 pm3 an3 cd3 ct3), sl3⟩) (c3 : PySem.W.codeIn K cd3 "is_text" = true) (k3 : PySem.W.keepIn K (.ref f3) = true)
    (a4 : PySem.W.nsIn K mainGlobals "sign_number" = some (some (.ref f4))) (l4 : K.lookup f4 = some ⟨oc4, od4, .func (PySem.W.fnOf "sign_number" "sign_number" (defArgs (stm 7)) (defBody (stm 7)) (defScope (stm 7)) .none kV4 dc4 pm4 an4 cd4 ct4), sl4⟩) (c4 : PySem.W.codeIn K cd4 "sign_number" = true) (k4 : PySem.W.keepIn K (.ref f4) = true)
    (a5 : PySem.W.nsIn K mainGlobals "sign_of" = some (some (.ref f5))) (l5 : K.lookup f5 = some ⟨oc5, od5, .func (PySem.W.fnOf "sign_of" "sign_of" (defArgs (stm 8)) (defBody (stm 8)) (defScope (stm 8)) .none kV5 dc5 pm5 an5 cd5 ct5), sl5⟩) (c5 : PySem.W.codeIn K cd5 "sign_of" = true) (k5 : PySem.W.keepIn K (.ref f5) = true)
    (a6 : PySem.W.nsIn K mainGlobals "signs_by" = some (some (.ref f6))) (l6 : K.lookup f6 = some ⟨oc6, od6, .func (PySem.W.fnOf "signs_by" "signs_by" (defArgs (stm 9)) (defBody (stm 9)) (defScope (stm 9)) .none kV6 dc6 pm6 an6 cd6 ct6), sl6⟩) (c6 : PySem.W.codeIn K cd6 "signs_by" = true) (k6 : PySem.W.keepIn K (.ref f6) = true)
    (a7 : PySem.W.nsIn K mainGlobals "signs_in" = some (some (.ref f7))) (l7 : K.lookup f7 = some ⟨oc7, od7, .func (PySem.W.fnOf "signs_in" "signs_in" (defArgs (stm 10)) (defBody (stm 10)) (defScope (stm 10)) .none kV7 dc7 pm7 an7 cd7 ct7), sl7⟩) (c7 : PySem.W.codeIn K cd7 "signs_in" = true) (k7 : PySem.W.keepIn K (.ref f7) = true)
    (a8 : PySem.W.nsIn K mainGlobals "every_sign" = some (some (.ref f8))) (l8 : K.lookup f8 = some ⟨oc8, od8, .func (PySem.W.fnOf "every_sign" "every_sign" (defArgs (stm 11)) (defBody (stm 11)) (defScope (stm 11)) .none kV8 dc8 pm8 an8 cd8 ct8), sl8⟩) (c8 : PySem.W.codeIn K cd8 "every_sign" = true) (k8 : PySem.W.keepIn K (.ref f8) = true)
    (a9 : PySem.W.nsIn K mainGlobals "union_signs" = some (some (.ref f9))) (l9 : K.lookup f9 = some ⟨oc9, od9, .func (PySem.W.fnOf "union_signs" "union_signs" (defArgs (stm 12)) (defBody (stm 12)) (defScope (stm 12)) .none kV9 dc9 pm9 an9 cd9 ct9), sl9⟩) (c9 : PySem.W.codeIn K cd9 "union_signs" = true) (k9 : PySem.W.keepIn K (.ref f9) = true)
    (a10 : PySem.W.nsIn K mainGlobals "other_signs" = some (some (.ref f10))) (l10 : K.lookup f10 = some ⟨oc10, od10, .func (PySem.W.fnOf "other_signs" "other_signs" (defArgs (stm 13)) (defBody (stm 13)) (defScope (stm 13)) .none kV10 dc10 pm10 an10 cd10 ct10), sl10⟩) (c10 : PySem.W.codeIn K cd10 "other_signs" = true) (k10 : PySem.W.keepIn K (.ref f10) = true)
    (a11 : PySem.W.nsIn K mainGlobals "both_signs" = some (some (.ref f11))) (l11 : K.lookup f11 = some ⟨oc11, od11, .func (PySem.W.fnOf "both_signs" "both_signs" (defArgs (stm 14)) (defBody (stm 14)) (defScope (stm 14)) .none kV11 dc11 pm11 an11 cd11 ct11), sl11⟩) (c11 : PySem.W.codeIn K cd11 "both_signs" = true) (k11 : PySem.W.keepIn K (.ref f11) = true)
    (a12 : PySem.W.nsIn K mainGlobals "less_signs" = some (some (.ref f12))) (l12 : K.lookup f12 = some ⟨oc12, od12, .func (PySem.W.fnOf "less_signs" "less_signs" (defArgs (stm 15)) (defBody (stm 15)) (defScope (stm 15)) .none kV12 dc12 pm12 an12 cd12 ct12), sl12⟩) (c12 : PySem.W.codeIn K cd12 "less_signs" = true) (k12 : PySem.W.keepIn K (.ref f12) = true)
    (a13 : PySem.W.nsIn K mainGlobals "has_sign" = some (some (.ref f13))) (l13 : K.lookup f13 = some ⟨oc13, od13, .func (PySem.W.fnOf "has_sign" "has_sign" (defArgs (stm 16)) (defBody (stm 16)) (defScope (stm 16)) .none kV13 dc13 pm13 an13 cd13 ct13), sl13⟩) (c13 : PySem.W.codeIn K cd13 "has_sign" = true) (k13 : PySem.W.keepIn K (.ref f13) = true)
    (a14 : PySem.W.nsIn K mainGlobals "sign_count" = some (some (.ref f14))) (l14 : K.lookup f14 = some ⟨oc14, od14, .func (PySem.W.fnOf "sign_count" "sign_count" (defArgs (stm 17)) (defBody (stm 17)) (defScope (stm 17)) .none kV14 dc14 pm14 an14 cd14 ct14), sl14⟩) (c14 : PySem.W.codeIn K cd14 "sign_count" = true) (k14 : PySem.W.keepIn K (.ref f14) = true)
    (a15 : PySem.W.nsIn K mainGlobals "least_sign" = some (some (.ref f15))) (l15 : K.lookup f15 = some ⟨oc15, od15, .func (PySem.W.fnOf "least_sign" "least_sign" (defArgs (stm 18)) (defBody (stm 18)) (defScope (stm 18)) .none kV15 dc15 pm15 an15 cd15 ct15), sl15⟩) (c15 : PySem.W.codeIn K cd15 "least_sign" = true) (k15 : PySem.W.keepIn K (.ref f15) = true)
    (a16 : PySem.W.nsIn K mainGlobals "sign_classes" = some (some (.ref f16))) (l16 : K.lookup f16 = some ⟨oc16, od16, .func (PySem.W.fnOf "sign_classes" "sign_classes" (defArgs (stm 19)) (defBody (stm 19)) (defScope (stm 19)) .none kV16 dc16 pm16 an16 cd16 ct16), sl16⟩) (c16 : PySem.W.codeIn K cd16 "sign_classes" = true) (k16 : PySem.W.keepIn K (.ref f16) = true)
    (a17 : PySem.W.nsIn K mainGlobals "class_of" = some (some (.ref f17))) (l17 : K.lookup f17 = some ⟨oc17, od17, .func (PySem.W.fnOf "class_of" "class_of" (defArgs (stm 20)) (defBody (stm 20)) (defScope (stm 20)) .none kV17 dc17 pm17 an17 cd17 ct17), sl17⟩) (c17 : PySem.W.codeIn K cd17 "class_of" = true) (k17 : PySem.W.keepIn K (.ref f17) = true)
    (a18 : PySem.W.nsIn K mainGlobals "_law_next" = some (some (.ref f18))) (l18 : K.lookup f18 = some ⟨oc18, od18, .func (PySem.W.fnOf "_law_next" "_law_next" (defArgs (stm 22)) (defBody (stm 22)) (defScope (stm 22)) .none kV18 dc18 pm18 an18 cd18 ct18), sl18⟩) (c18 : PySem.W.codeIn K cd18 "_law_next" = true) (k18 : PySem.W.keepIn K (.ref f18) = true)
    (a19 : PySem.W.nsIn K mainGlobals "_law_same" = some (some (.ref f19))) (l19 : K.lookup f19 = some ⟨oc19, od19, .func (PySem.W.fnOf "_law_same" "_law_same" (defArgs (stm 23)) (defBody (stm 23)) (defScope (stm 23)) .none kV19 dc19 pm19 an19 cd19 ct19), sl19⟩) (c19 : PySem.W.codeIn K cd19 "_law_same" = true) (k19 : PySem.W.keepIn K (.ref f19) = true)
    (a20 : PySem.W.nsIn K mainGlobals "_law_signs" = some (some (.ref f20))) (l20 : K.lookup f20 = some ⟨oc20, od20, .func (PySem.W.fnOf "_law_signs" "_law_signs" (defArgs (stm 24)) (defBody (stm 24)) (defScope (stm 24)) .none kV20 dc20 pm20 an20 cd20 ct20), sl20⟩) (c20 : PySem.W.codeIn K cd20 "_law_signs" = true) (k20 : PySem.W.keepIn K (.ref f20) = true)
    (a21 : PySem.W.nsIn K mainGlobals "_law_ranges" = some (some (.ref f21))) (l21 : K.lookup f21 = some ⟨oc21, od21, .func (PySem.W.fnOf "_law_ranges" "_law_ranges" (defArgs (stm 25)) (defBody (stm 25)) (defScope (stm 25)) .none kV21 dc21 pm21 an21 cd21 ct21), sl21⟩) (c21 : PySem.W.codeIn K cd21 "_law_ranges" = true) (k21 : PySem.W.keepIn K (.ref f21) = true)
    (a22 : PySem.W.nsIn K mainGlobals "_law_codes" = some (some (.ref f22))) (l22 : K.lookup f22 = some ⟨oc22, od22, .func (PySem.W.fnOf "_law_codes" "_law_codes" (defArgs (stm 26)) (defBody (stm 26)) (defScope (stm 26)) .none kV22 dc22 pm22 an22 cd22 ct22), sl22⟩) (c22 : PySem.W.codeIn K cd22 "_law_codes" = true) (k22 : PySem.W.keepIn K (.ref f22) = true)
    (a23 : PySem.W.nsIn K mainGlobals "_law_least_one" = some (some (.ref f23))) (l23 : K.lookup f23 = some ⟨oc23, od23, .func (PySem.W.fnOf "_law_least_one" "_law_least_one" (defArgs (stm 27)) (defBody (stm 27)) (defScope (stm 27)) .none kV23 dc23 pm23 an23 cd23 ct23), sl23⟩) (c23 : PySem.W.codeIn K cd23 "_law_least_one" = true) (k23 : PySem.W.keepIn K (.ref f23) = true)
    (a24 : PySem.W.nsIn K mainGlobals "law" = some (some (.ref f24))) (l24 : K.lookup f24 = some ⟨oc24, od24, .func (PySem.W.fnOf "law" "law" (defArgs (stm 28)) (defBody (stm 28)) (defScope (stm 28)) .none kV24 dc24 pm24 an24 cd24 ct24), sl24⟩) (c24 : PySem.W.codeIn K cd24 "law" = true) (k24 : PySem.W.keepIn K (.ref f24) = true)
    (z0 : PySem.W.nsIn K mainGlobals "len" = some none)
    (z1 : PySem.W.nsIn K mainGlobals "tuple" = some none)
    (z2 : PySem.W.nsIn K mainGlobals "list" = some none)
    (z3 : PySem.W.nsIn K mainGlobals "sorted" = some none)
    (z4 : PySem.W.nsIn K mainGlobals "all" = some none)
    (z5 : PySem.W.nsIn K mainGlobals "any" = some none)
    (z6 : PySem.W.nsIn K mainGlobals "sum" = some none)
    (z7 : PySem.W.nsIn K mainGlobals "min" = some none)
    (z8 : PySem.W.nsIn K mainGlobals "max" = some none)
    (z9 : PySem.W.nsIn K mainGlobals "abs" = some none)
    (z10 : PySem.W.nsIn K mainGlobals "int" = some none)
    (z11 : PySem.W.nsIn K mainGlobals "ord" = some none)
    (z12 : PySem.W.nsIn K mainGlobals "range" = some none)
    (z13 : PySem.W.nsIn K mainGlobals "isinstance" = some none)
    (z14 : PySem.W.nsIn K mainGlobals "bool" = some none)
    (z15 : PySem.W.nsIn K mainGlobals "str" = some none)
    (z16 : PySem.W.nsIn K mainGlobals "dict" = some none)
    {gs0 : Str} {gt0 : Tok} (cst0 : PySem.W.nsIn K mainGlobals "SIGNS" = some (some (.str gs0 gt0))) (heq0 : gs0 = mkS [9, 10, 32, 33, 34, 35, 36, 37, 38, 39, 40, 41, 42, 43, 44, 45, 46, 47, 48, 49, 50, 51, 52, 53, 54, 55, 56, 57, 58, 59, 60, 61, 62, 63, 64, 65, 66, 67, 68, 69, 70, 71, 72, 73, 74, 75, 76, 77, 78, 79, 80, 81, 82, 83, 84, 85, 86, 87, 88, 89, 90, 91, 92, 93, 94, 95, 96, 97, 98, 99, 100, 101, 102, 103, 104, 105, 106, 107, 108, 109, 110, 111, 112, 113, 114, 115, 116, 117, 118, 119, 120, 121, 122, 123, 124, 125, 126])
    {gt1 : Tok} (cst1 : PySem.W.nsIn K mainGlobals "LAST" = some (some (.int (96) gt1))) :
    ∃ fd : FuncData, (∀ (s : Shared) (v : Value), BindsTo s fd ⟨[v], []⟩ [("script", v)]) ∧ ∀ base : Heap, K.In base → base.Ns mainGlobals mg → FnOk l.prog w K mg base (L2.CX l.prog w) n fa fd ["script"] (Ev.spLaw K (fun _ _ _ _ _ _ => False) false (evF fs wf n 24)) := by
  have e := hfa.symm.trans (PySem.W.mg_of X G a24)
  cases e
  have F0 := fun_mk (st := stm 3) l0 c0 k0
  have B0 := F0.binds (ps := ["value"]) fun _ _ _ _ _ _ us hl => match us, hl with | [_], _ => rfl
  have D0 : DefE l.prog w K mg fs fnT gT ⟨"is_count", 0, [.bor], false⟩ _ _ _ := ⟨⟨f_is_count, stm 3, c_is_count, 60, _, rfl, F0, s_is_count, rfl, rfl, rfl, rfl, rfl, t_is_count, rfl, rfl, rfl, rfl⟩, PySem.W.mg_of X G a0, B0⟩
  have F1 := fun_mk (st := stm 4) l1 c1 k1
  have B1 := F1.binds (ps := ["value"]) fun _ _ _ _ _ _ us hl => match us, hl with | [_], _ => rfl
  have D1 : DefE l.prog w K mg fs fnT gT ⟨"is_range", 1, [.bor], true⟩ _ _ _ := ⟨⟨f_is_range, stm 4, c_is_range, 60, _, rfl, F1, s_is_range, rfl, rfl, rfl, rfl, rfl, t_is_range, rfl, rfl, rfl, rfl⟩, PySem.W.mg_of X G a1, B1⟩
  have F2 := fun_mk (st := stm 5) l2 c2 k2
  have B2 := F2.binds (ps := ["value"]) fun _ _ _ _ _ _ us hl => match us, hl with | [_], _ => rfl
  have D2 : DefE l.prog w K mg fs fnT gT ⟨"is_signs", 2, [.bor], true⟩ _ _ _ := ⟨⟨f_is_signs, stm 5, c_is_signs, 60, _, rfl, F2, s_is_signs, rfl, rfl, rfl, rfl, rfl, t_is_signs, rfl, rfl, rfl, rfl⟩, PySem.W.mg_of X G a2, B2⟩
  have F3 := fun_mk (st := stm 6) l3 c3 k3
  have B3 := F3.binds (ps := ["value"]) fun _ _ _ _ _ _ us hl => match us, hl with | [_], _ => rfl
  have D3 : DefE l.prog w K mg fs fnT gT ⟨"is_text", 3, [.bor], false⟩ _ _ _ := ⟨⟨f_is_text, stm 6, c_is_text, 60, _, rfl, F3, s_is_text, rfl, rfl, rfl, rfl, rfl, t_is_text, rfl, rfl, rfl, rfl⟩, PySem.W.mg_of X G a3, B3⟩
  have F4 := fun_mk (st := stm 7) l4 c4 k4
  have B4 := F4.binds (ps := ["sign"]) fun _ _ _ _ _ _ us hl => match us, hl with | [_], _ => rfl
  have D4 : DefE l.prog w K mg fs fnT gT ⟨"sign_number", 4, [.bor], true⟩ _ _ _ := ⟨⟨f_sign_number, stm 7, c_sign_number, 60, _, rfl, F4, s_sign_number, rfl, rfl, rfl, rfl, rfl, t_sign_number, rfl, rfl, rfl, rfl⟩, PySem.W.mg_of X G a4, B4⟩
  have F5 := fun_mk (st := stm 8) l5 c5 k5
  have B5 := F5.binds (ps := ["number"]) fun _ _ _ _ _ _ us hl => match us, hl with | [_], _ => rfl
  have D5 : DefE l.prog w K mg fs fnT gT ⟨"sign_of", 5, [.bor], false⟩ _ _ _ := ⟨⟨f_sign_of, stm 8, c_sign_of, 60, _, rfl, F5, s_sign_of, rfl, rfl, rfl, rfl, rfl, t_sign_of, rfl, rfl, rfl, rfl⟩, PySem.W.mg_of X G a5, B5⟩
  have F6 := fun_mk (st := stm 9) l6 c6 k6
  have B6 := F6.binds (ps := ["ranges"]) fun _ _ _ _ _ _ us hl => match us, hl with | [_], _ => rfl
  have D6 : DefE l.prog w K mg fs fnT gT ⟨"signs_by", 6, [.bor], true⟩ _ _ _ := ⟨⟨f_signs_by, stm 9, c_signs_by, 60, _, rfl, F6, s_signs_by, rfl, rfl, rfl, rfl, rfl, t_signs_by, rfl, rfl, rfl, rfl⟩, PySem.W.mg_of X G a6, B6⟩
  have F7 := fun_mk (st := stm 10) l7 c7 k7
  have B7 := F7.binds (ps := ["text"]) fun _ _ _ _ _ _ us hl => match us, hl with | [_], _ => rfl
  have D7 : DefE l.prog w K mg fs fnT gT ⟨"signs_in", 7, [.bor], true⟩ _ _ _ := ⟨⟨f_signs_in, stm 10, c_signs_in, 60, _, rfl, F7, s_signs_in, rfl, rfl, rfl, rfl, rfl, t_signs_in, rfl, rfl, rfl, rfl⟩, PySem.W.mg_of X G a7, B7⟩
  have F8 := fun_mk (st := stm 11) l8 c8 k8
  have B8 := F8.binds (ps := []) fun _ _ _ _ _ _ us hl => match us, hl with | [], _ => rfl
  have D8 : DefE l.prog w K mg fs fnT gT ⟨"every_sign", 8, [], true⟩ _ _ _ := ⟨⟨f_every_sign, stm 11, c_every_sign, 60, _, rfl, F8, s_every_sign, rfl, rfl, rfl, rfl, rfl, t_every_sign, rfl, rfl, rfl, rfl⟩, PySem.W.mg_of X G a8, B8⟩
  have F9 := fun_mk (st := stm 12) l9 c9 k9
  have B9 := F9.binds (ps := ["first", "second"]) fun _ _ _ _ _ _ us hl => match us, hl with | [_, _], _ => rfl
  have D9 : DefE l.prog w K mg fs fnT gT ⟨"union_signs", 9, [.bor, .bor], true⟩ _ _ _ := ⟨⟨f_union_signs, stm 12, c_union_signs, 60, _, rfl, F9, s_union_signs, rfl, rfl, rfl, rfl, rfl, t_union_signs, rfl, rfl, rfl, rfl⟩, PySem.W.mg_of X G a9, B9⟩
  have F10 := fun_mk (st := stm 13) l10 c10 k10
  have B10 := F10.binds (ps := ["signs"]) fun _ _ _ _ _ _ us hl => match us, hl with | [_], _ => rfl
  have D10 : DefE l.prog w K mg fs fnT gT ⟨"other_signs", 10, [.bor], true⟩ _ _ _ := ⟨⟨f_other_signs, stm 13, c_other_signs, 60, _, rfl, F10, s_other_signs, rfl, rfl, rfl, rfl, rfl, t_other_signs, rfl, rfl, rfl, rfl⟩, PySem.W.mg_of X G a10, B10⟩
  have F11 := fun_mk (st := stm 14) l11 c11 k11
  have B11 := F11.binds (ps := ["first", "second"]) fun _ _ _ _ _ _ us hl => match us, hl with | [_, _], _ => rfl
  have D11 : DefE l.prog w K mg fs fnT gT ⟨"both_signs", 11, [.bor, .bor], true⟩ _ _ _ := ⟨⟨f_both_signs, stm 14, c_both_signs, 60, _, rfl, F11, s_both_signs, rfl, rfl, rfl, rfl, rfl, t_both_signs, rfl, rfl, rfl, rfl⟩, PySem.W.mg_of X G a11, B11⟩
  have F12 := fun_mk (st := stm 15) l12 c12 k12
  have B12 := F12.binds (ps := ["first", "second"]) fun _ _ _ _ _ _ us hl => match us, hl with | [_, _], _ => rfl
  have D12 : DefE l.prog w K mg fs fnT gT ⟨"less_signs", 12, [.bor, .bor], true⟩ _ _ _ := ⟨⟨f_less_signs, stm 15, c_less_signs, 60, _, rfl, F12, s_less_signs, rfl, rfl, rfl, rfl, rfl, t_less_signs, rfl, rfl, rfl, rfl⟩, PySem.W.mg_of X G a12, B12⟩
  have F13 := fun_mk (st := stm 16) l13 c13 k13
  have B13 := F13.binds (ps := ["signs", "sign"]) fun _ _ _ _ _ _ us hl => match us, hl with | [_, _], _ => rfl
  have D13 : DefE l.prog w K mg fs fnT gT ⟨"has_sign", 13, [.bor, .bor], true⟩ _ _ _ := ⟨⟨f_has_sign, stm 16, c_has_sign, 60, _, rfl, F13, s_has_sign, rfl, rfl, rfl, rfl, rfl, t_has_sign, rfl, rfl, rfl, rfl⟩, PySem.W.mg_of X G a13, B13⟩
  have F14 := fun_mk (st := stm 17) l14 c14 k14
  have B14 := F14.binds (ps := ["signs"]) fun _ _ _ _ _ _ us hl => match us, hl with | [_], _ => rfl
  have D14 : DefE l.prog w K mg fs fnT gT ⟨"sign_count", 14, [.bor], true⟩ _ _ _ := ⟨⟨f_sign_count, stm 17, c_sign_count, 60, _, rfl, F14, s_sign_count, rfl, rfl, rfl, rfl, rfl, t_sign_count, rfl, rfl, rfl, rfl⟩, PySem.W.mg_of X G a14, B14⟩
  have F15 := fun_mk (st := stm 18) l15 c15 k15
  have B15 := F15.binds (ps := ["signs"]) fun _ _ _ _ _ _ us hl => match us, hl with | [_], _ => rfl
  have D15 : DefE l.prog w K mg fs fnT gT ⟨"least_sign", 15, [.bor], false⟩ _ _ _ := ⟨⟨f_least_sign, stm 18, c_least_sign, 60, _, rfl, F15, s_least_sign, rfl, rfl, rfl, rfl, rfl, t_least_sign, rfl, rfl, rfl, rfl⟩, PySem.W.mg_of X G a15, B15⟩
  have F16 := fun_mk (st := stm 19) l16 c16 k16
  have B16 := F16.binds (ps := ["sets"]) fun _ _ _ _ _ _ us hl => match us, hl with | [_], _ => rfl
  have D16 : DefE l.prog w K mg fs fnT gT ⟨"sign_classes", 16, [.bor], true⟩ _ _ _ := ⟨⟨f_sign_classes, stm 19, c_sign_classes, 60, _, rfl, F16, s_sign_classes, rfl, rfl, rfl, rfl, rfl, t_sign_classes, rfl, rfl, rfl, rfl⟩, PySem.W.mg_of X G a16, B16⟩
  have F17 := fun_mk (st := stm 20) l17 c17 k17
  have B17 := F17.binds (ps := ["classes", "sign"]) fun _ _ _ _ _ _ us hl => match us, hl with | [_, _], _ => rfl
  have D17 : DefE l.prog w K mg fs fnT gT ⟨"class_of", 17, [.bor, .bor], false⟩ _ _ _ := ⟨⟨f_class_of, stm 20, c_class_of, 60, _, rfl, F17, s_class_of, rfl, rfl, rfl, rfl, rfl, t_class_of, rfl, rfl, rfl, rfl⟩, PySem.W.mg_of X G a17, B17⟩
  have F18 := fun_mk (st := stm 22) l18 c18 k18
  have B18 := F18.binds (ps := ["tape", "many"]) fun _ _ _ _ _ _ us hl => match us, hl with | [_, _], _ => rfl
  have D18 : DefE l.prog w K mg fs fnT gT ⟨"_law_next", 18, [.io, .bor], true⟩ _ _ _ := ⟨⟨f__law_next, stm 22, c__law_next, 60, _, rfl, F18, s__law_next, rfl, rfl, rfl, rfl, rfl, t__law_next, rfl, rfl, rfl, rfl⟩, PySem.W.mg_of X G a18, B18⟩
  have F19 := fun_mk (st := stm 23) l19 c19 k19
  have B19 := F19.binds (ps := ["told", "due"]) fun _ _ _ _ _ _ us hl => match us, hl with | [_, _], _ => rfl
  have D19 : DefE l.prog w K mg fs fnT gT ⟨"_law_same", 19, [.bor, .bor], false⟩ _ _ _ := ⟨⟨f__law_same, stm 23, c__law_same, 60, _, rfl, F19, s__law_same, rfl, rfl, rfl, rfl, rfl, t__law_same, rfl, rfl, rfl, rfl⟩, PySem.W.mg_of X G a19, B19⟩
  have F20 := fun_mk (st := stm 24) l20 c20 k20
  have B20 := F20.binds (ps := []) fun _ _ _ _ _ _ us hl => match us, hl with | [], _ => rfl
  have D20 : DefE l.prog w K mg fs fnT gT ⟨"_law_signs", 20, [], false⟩ _ _ _ := ⟨⟨f__law_signs, stm 24, c__law_signs, 60, _, rfl, F20, s__law_signs, rfl, rfl, rfl, rfl, rfl, t__law_signs, rfl, rfl, rfl, rfl⟩, PySem.W.mg_of X G a20, B20⟩
  have F21 := fun_mk (st := stm 25) l21 c21 k21
  have B21 := F21.binds (ps := ["tape"]) fun _ _ _ _ _ _ us hl => match us, hl with | [_], _ => rfl
  have D21 : DefE l.prog w K mg fs fnT gT ⟨"_law_ranges", 21, [.io], true⟩ _ _ _ := ⟨⟨f__law_ranges, stm 25, c__law_ranges, 60, _, rfl, F21, s__law_ranges, rfl, rfl, rfl, rfl, rfl, t__law_ranges, rfl, rfl, rfl, rfl⟩, PySem.W.mg_of X G a21, B21⟩
  have F22 := fun_mk (st := stm 26) l22 c22 k22
  have B22 := F22.binds (ps := ["ranges"]) fun _ _ _ _ _ _ us hl => match us, hl with | [_], _ => rfl
  have D22 : DefE l.prog w K mg fs fnT gT ⟨"_law_codes", 22, [.bor], true⟩ _ _ _ := ⟨⟨f__law_codes, stm 26, c__law_codes, 60, _, rfl, F22, s__law_codes, rfl, rfl, rfl, rfl, rfl, t__law_codes, rfl, rfl, rfl, rfl⟩, PySem.W.mg_of X G a22, B22⟩
  have F23 := fun_mk (st := stm 27) l23 c23 k23
  have B23 := F23.binds (ps := ["codes"]) fun _ _ _ _ _ _ us hl => match us, hl with | [_], _ => rfl
  have D23 : DefE l.prog w K mg fs fnT gT ⟨"_law_least_one", 23, [.bor], false⟩ _ _ _ := ⟨⟨f__law_least_one, stm 27, c__law_least_one, 60, _, rfl, F23, s__law_least_one, rfl, rfl, rfl, rfl, rfl, t__law_least_one, rfl, rfl, rfl, rfl⟩, PySem.W.mg_of X G a23, B23⟩
  have F24 := fun_mk (st := stm 28) l24 c24 k24
  have B24 := F24.binds (ps := ["script"]) fun _ _ _ _ _ _ us hl => match us, hl with | [_], _ => rfl
  have D24 : DefE l.prog w K mg fs fnT gT ⟨"law", 24, [.bor], false⟩ _ _ _ := ⟨⟨f_law, stm 28, c_law, 60, _, rfl, F24, s_law, rfl, rfl, rfl, rfl, rfl, t_law, rfl, rfl, rfl, rfl⟩, PySem.W.mg_of X G a24, B24⟩
  have all : ∀ fe ∈ fnT, ∃ f fd ps, DefE l.prog w K mg fs fnT gT fe f fd ps := by
    intro fe hfe
    unfold fnT at hfe
    simp only [List.mem_cons, List.not_mem_nil, or_false] at hfe
    rcases hfe with rfl | rfl | rfl | rfl | rfl | rfl | rfl | rfl | rfl | rfl | rfl | rfl | rfl | rfl | rfl | rfl | rfl | rfl | rfl | rfl | rfl | rfl | rfl | rfl | rfl
    · exact ⟨_, _, _, D0⟩
    · exact ⟨_, _, _, D1⟩
    · exact ⟨_, _, _, D2⟩
    · exact ⟨_, _, _, D3⟩
    · exact ⟨_, _, _, D4⟩
    · exact ⟨_, _, _, D5⟩
    · exact ⟨_, _, _, D6⟩
    · exact ⟨_, _, _, D7⟩
    · exact ⟨_, _, _, D8⟩
    · exact ⟨_, _, _, D9⟩
    · exact ⟨_, _, _, D10⟩
    · exact ⟨_, _, _, D11⟩
    · exact ⟨_, _, _, D12⟩
    · exact ⟨_, _, _, D13⟩
    · exact ⟨_, _, _, D14⟩
    · exact ⟨_, _, _, D15⟩
    · exact ⟨_, _, _, D16⟩
    · exact ⟨_, _, _, D17⟩
    · exact ⟨_, _, _, D18⟩
    · exact ⟨_, _, _, D19⟩
    · exact ⟨_, _, _, D20⟩
    · exact ⟨_, _, _, D21⟩
    · exact ⟨_, _, _, D22⟩
    · exact ⟨_, _, _, D23⟩
    · exact ⟨_, _, _, D24⟩
  have blt : ∀ x ∈ bltNames, mg x = none := by
    intro x hx
    unfold bltNames at hx
    simp only [List.mem_cons, List.not_mem_nil, or_false] at hx
    rcases hx with rfl | rfl | rfl | rfl | rfl | rfl | rfl | rfl | rfl | rfl | rfl | rfl | rfl | rfl | rfl | rfl | rfl
    · exact PySem.W.mg_none_of X G z0
    · exact PySem.W.mg_none_of X G z1
    · exact PySem.W.mg_none_of X G z2
    · exact PySem.W.mg_none_of X G z3
    · exact PySem.W.mg_none_of X G z4
    · exact PySem.W.mg_none_of X G z5
    · exact PySem.W.mg_none_of X G z6
    · exact PySem.W.mg_none_of X G z7
    · exact PySem.W.mg_none_of X G z8
    · exact PySem.W.mg_none_of X G z9
    · exact PySem.W.mg_none_of X G z10
    · exact PySem.W.mg_none_of X G z11
    · exact PySem.W.mg_none_of X G z12
    · exact PySem.W.mg_none_of X G z13
    · exact PySem.W.mg_none_of X G z14
    · exact PySem.W.mg_none_of X G z15
    · exact PySem.W.mg_none_of X G z16
  have con : ∀ g ∈ gT, isMut g.2 = false → ∃ (v : V) (u : Value), mg g.1 = some u ∧ L2.RelV v u ∧ ∀ R H, Rep K R H g.2 v := by
    intro g hg _
    unfold gT at hg
    simp only [List.mem_cons, List.not_mem_nil, or_false] at hg
    rcases hg with rfl | rfl
    · exact ⟨.str (mkS [9, 10, 32, 33, 34, 35, 36, 37, 38, 39, 40, 41, 42, 43, 44, 45, 46, 47, 48, 49, 50, 51, 52, 53, 54, 55, 56, 57, 58, 59, 60, 61, 62, 63, 64, 65, 66, 67, 68, 69, 70, 71, 72, 73, 74, 75, 76, 77, 78, 79, 80, 81, 82, 83, 84, 85, 86, 87, 88, 89, 90, 91, 92, 93, 94, 95, 96, 97, 98, 99, 100, 101, 102, 103, 104, 105, 106, 107, 108, 109, 110, 111, 112, 113, 114, 115, 116, 117, 118, 119, 120, 121, 122, 123, 124, 125, 126]), _, PySem.W.mg_of X G cst0, ⟨gt0, by rw [heq0]⟩, fun _ _ => .str _ ⟨by decide, by decide⟩⟩
    · exact ⟨.int (96), _, PySem.W.mg_of X G cst1, ⟨gt1, rfl⟩, fun _ _ => .int _⟩
  refine ⟨PySem.W.fnOf "law" "law" (defArgs (stm 28)) (defBody (stm 28)) (defScope (stm 28)) .none kV24 dc24 pm24 an24 cd24 ct24, fun s v => .of_eq rfl, fun base _ _ => ?_⟩
  exact FnOk.kf (defs_ok (fun _ _ _ _ _ _ _ _ z => z) all con blt n _ _ _ _ D24)
theorem walk {l : PySem.W.OpenLaw} {q : Program} {loose : List Str} {XP : (Str → Option Value) → Heap → Prop} {YP : World → Heap → Prop} {d : DefRec} {K : Params → PySem.W.Frag} (hn : l.most = some 63) (hdf : d.params.defaults = [])
    (hY : ∀ (w : World) (h : Heap), YP w h → (K w.params).In h)
    (F : ∀ (w : World) (mg : Str → Option Value) (fa : Addr) (h : Heap), (K w.params).In h → h.Ns mainGlobals mg → mg d.name = some (.ref fa) →
      ∃ fd : FuncData, (∀ (s : Shared) (u : Value), BindsTo s fd ⟨[u], []⟩ [("script", u)]) ∧ ∀ base : Heap, (K w.params).In base → base.Ns mainGlobals mg → FnOk l.prog w (K w.params) mg base (L2.CX l.prog w) LVL fa fd ["script"] (Ev.spLaw (K w.params) (fun _ _ _ _ _ _ => False) false (evF fs WFU LVL 24))) :
    PySem.W.WalkO q loose XP YP l.row.toRowW d [] (fun f vs => PySem.call f vs) :=
  L2.walk_of (n := 63) (k := LVL) (x := "script") (CX := fun w => L2.CX l.prog w) (sp := fun w => Ev.spLaw (K w.params) (fun _ _ _ _ _ _ => False) false (evF fs WFU LVL 24)) hn (by decide) hdf ⟨rfl, by decide, by decide⟩ hY F (fun _ _ a ns hl _ hS => law_sp hl hS (law_true ns hl)) fun _ _ _ _ _ z => no_exc z

end K01
end -- tail

set_option Elab.async false
set_option linter.all false
set_option maxRecDepth 100000
set_option maxHeartbeats 4000000
open PySem PySem.W PyProof.Rows
set_option maxRecDepth 100000 in
set_option maxHeartbeats 0 in
theorem PySem.Challenge.cw_pegwright_k01_whole_sets_of_signs_holds : PySem.Challenge.rw_pegwright_k01_whole_sets_of_signs.Holds := by
  w_on; o_law; k_head; (case hw => w_witness2)
  k_fill
  refine K01.walk (l := PySem.Challenge.rw_pegwright_k01_whole_sets_of_signs) rfl rfl (fun w h Y => PySem.W.kIn_of Y) ?F
  case F =>
    intro w mg fa h KX G hmg
    refine' K01.all_mk KX G hmg ?a0 ?l0 ?c0 ?k0 ?a1 ?l1 ?c1 ?k1 ?a2 ?l2 ?c2 ?k2 ?a3 ?l3 ?c3 ?k3 ?a4 ?l4 ?c4 ?k4 ?a5 ?l5 ?c5 ?k5 ?a6 ?l6 ?c6 ?k6 ?a7 ?l7 ?c7 ?k7 ?a8 ?l8 ?c8 ?k8 ?a9 ?l9 ?c9 ?k9 ?a10 ?l10 ?c10 ?k10 ?a11 ?l11 ?c11 ?k11 ?a12 ?l12 ?c12 ?k12 ?a13 ?l13 ?c13 ?k13 ?a14 ?l14 ?c14 ?k14 ?a15 ?l15 ?c15 ?k15 ?a16 ?l16 ?c16 ?k16 ?a17 ?l17 ?c17 ?k17 ?a18 ?l18 ?c18 ?k18 ?a19 ?l19 ?c19 ?k19 ?a20 ?l20 ?c20 ?k20 ?a21 ?l21 ?c21 ?k21 ?a22 ?l22 ?c22 ?k22 ?a23 ?l23 ?c23 ?k23 ?a24 ?l24 ?c24 ?k24 ?z0 ?z1 ?z2 ?z3 ?z4 ?z5 ?z6 ?z7 ?z8 ?z9 ?z10 ?z11 ?z12 ?z13 ?z14 ?z15 ?z16 ?cst0 ?heq0 ?cst1
    (case a0 => k_is)
    (case l0 => k_is)
    (case c0 => k_is)
    (case k0 => k_is)
    (case a1 => k_is)
    (case l1 => k_is)
    (case c1 => k_is)
    (case k1 => k_is)
    (case a2 => k_is)
    (case l2 => k_is)
    (case c2 => k_is)
    (case k2 => k_is)
    (case a3 => k_is)
    (case l3 => k_is)
    (case c3 => k_is)
    (case k3 => k_is)
    (case a4 => k_is)
    (case l4 => k_is)
    (case c4 => k_is)
    (case k4 => k_is)
    (case a5 => k_is)
    (case l5 => k_is)
    (case c5 => k_is)
    (case k5 => k_is)
    (case a6 => k_is)
    (case l6 => k_is)
    (case c6 => k_is)
    (case k6 => k_is)
    (case a7 => k_is)
    (case l7 => k_is)
    (case c7 => k_is)
    (case k7 => k_is)
    (case a8 => k_is)
    (case l8 => k_is)
    (case c8 => k_is)
    (case k8 => k_is)
    (case a9 => k_is)
    (case l9 => k_is)
    (case c9 => k_is)
    (case k9 => k_is)
    (case a10 => k_is)
    (case l10 => k_is)
    (case c10 => k_is)
    (case k10 => k_is)
    (case a11 => k_is)
    (case l11 => k_is)
    (case c11 => k_is)
    (case k11 => k_is)
    (case a12 => k_is)
    (case l12 => k_is)
    (case c12 => k_is)
    (case k12 => k_is)
    (case a13 => k_is)
    (case l13 => k_is)
    (case c13 => k_is)
    (case k13 => k_is)
    (case a14 => k_is)
    (case l14 => k_is)
    (case c14 => k_is)
    (case k14 => k_is)
    (case a15 => k_is)
    (case l15 => k_is)
    (case c15 => k_is)
    (case k15 => k_is)
    (case a16 => k_is)
    (case l16 => k_is)
    (case c16 => k_is)
    (case k16 => k_is)
    (case a17 => k_is)
    (case l17 => k_is)
    (case c17 => k_is)
    (case k17 => k_is)
    (case a18 => k_is)
    (case l18 => k_is)
    (case c18 => k_is)
    (case k18 => k_is)
    (case a19 => k_is)
    (case l19 => k_is)
    (case c19 => k_is)
    (case k19 => k_is)
    (case a20 => k_is)
    (case l20 => k_is)
    (case c20 => k_is)
    (case k20 => k_is)
    (case a21 => k_is)
    (case l21 => k_is)
    (case c21 => k_is)
    (case k21 => k_is)
    (case a22 => k_is)
    (case l22 => k_is)
    (case c22 => k_is)
    (case k22 => k_is)
    (case a23 => k_is)
    (case l23 => k_is)
    (case c23 => k_is)
    (case k23 => k_is)
    (case a24 => k_is)
    (case l24 => k_is)
    (case c24 => k_is)
    (case k24 => k_is)
    (case z0 => k_is)
    (case z1 => k_is)
    (case z2 => k_is)
    (case z3 => k_is)
    (case z4 => k_is)
    (case z5 => k_is)
    (case z6 => k_is)
    (case z7 => k_is)
    (case z8 => k_is)
    (case z9 => k_is)
    (case z10 => k_is)
    (case z11 => k_is)
    (case z12 => k_is)
    (case z13 => k_is)
    (case z14 => k_is)
    (case z15 => k_is)
    (case z16 => k_is)
    (case cst0 => k_is)
    (case heq0 => rfl)
    (case cst1 => k_is)

