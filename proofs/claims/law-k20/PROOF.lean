import PyProof.Rows.All
import Wide.All
import OpenK.AllK
import Wide.FinOn
import KE.KStateDown
import HandS.ForMost
import HandS.Exc
import HandS.ExcOwn
import HandS.TryOnly
import HandS.CallSlots
import HandS.WordsExc
import HandS.Zip
import HandS.Conv
import HandS.Deep
import HandS.Walk
import HandS.IsInst
import HandS.Style
import HandS.Flow
import HandS.TupLe
import HandS.TupAny
import HandS.TupMul
import HandS.Defaults
import HandS.Head2
import HandS.HeadHook2
import HandS.HeadEnd
import KE.SortData
import KE.DataMinMax
import HandS.DictTup
import HandS.Small
import KE.KDictCopyH
import KE.GoesMore
import HandS.TupSets
import HandS.SetFor
import HandS.Strs
import HandS.Codes
import HandS.HeadHook4
import PySem.Challenge.RW_sortingoffice_k20_whole_belts
set_option Elab.async false
set_option linter.all false
set_option maxRecDepth 100000
set_option maxHeartbeats 4000000
/-! P1: pure values, the small syntax, its evaluator. -/
namespace Pv
open PySem

inductive PV where
  | non
  | bl (b : Bool)
  | int (i : Int)
  | str (x : Str)
  | tup (xs : List PV)
  | lst (xs : List PV)
  | dct (kvs : List (PV × PV))
  | set (xs : List PV)
  | cel (k : Nat)
  | scr (ns : List Int)
  | exc (c : Str) (f : List PV)
  | glb (x : Str)

inductive Op where | add | sub | mul | fdiv | mod | pow
  deriving DecidableEq
inductive Cop where | eq | ne | lt | le | gt | ge | isin | notin | is_ | isnot
  deriving DecidableEq
inductive Bf where | len | abs | int | tuple | list | sum | min | max | all | any | sorted | set | dict | str | bool
  deriving DecidableEq
inductive Ty where | int | bool | str | tuple | list
  deriving DecidableEq

mutual
inductive E where
  | var (i : Nat) | own (i : Nat)
  | non | bl (b : Bool) | int (i : Int) | str (x : Str) | gint (x : Str) (i : Int)
  | bin (o : Op) (a b : E) | neg (a : E)
  | cmp (o : Cop) (a b : E) | cmp2 (o p : Cop) (a b c : E)
  | bo (isAnd : Bool) (as : Es)
  | not (a : E)
  | ite (c : T) (a b : E)
  | tup (as : Es) | lst (as : Es)
  | ix (a b : E)
  | sl (a : E) (lo hi : Oe) | rev (a : E)
  | bc (f : Bf) (as : Es)
  | isi (a : E) (t : Ty)
  | call (f : Nat) (as : Es)
  | cel (a : E)
  | rg1 (t : Bool) (a : E) | rg2 (t : Bool) (a b : E)
  | rpl (a b : E) | lof (a : E) | lset (a : E) | dnew | dlit (as : Es) (v : E) | compD (i : Nat) (elt : E) (g : G) (cs : Ts) (vs : List Nat)
  | comp (elt : E) (g : G) (it : I) (cs : Ts) (vs : List Nat)
  | comp2 (elt : E) (g : G) (it : I) (cs : Ts) (g1 : G) (it1 : I) (cs1 : Ts) (vs vs1 : List Nat)
inductive Es where
  | nil | cons (e : E) (r : Es)
inductive Oe where
  | no | yes (e : E)
inductive T where
  | e (a : E) | cmp (o : Cop) (a b : E) | cmp2 (o p : Cop) (a b c : E) | bo (isAnd : Bool) (ts : Ts) | not (t : T)
inductive Ts where
  | nil | cons (t : T) (r : Ts)
inductive I where
  | val (e : E) | r1 (a : E) | r2 (a b : E) | r3 (a b c : E) | zip (a b : E) | enum (a : E)
inductive G where
  | name (i : Nat) | tup (gs : Gs)
inductive Gs where
  | nil | cons (g : G) (r : Gs)
end

mutual
inductive S where
  | asg (g : G) (e : E) | asgO (i : Nat) (e : E) | par (is : List Nat) (es : Es) | aug (i : Nat) (o : Op) (e : E)
  | setC (c i e : E) | setO (x : Nat) (i e : E) | app (x : Nat) (e : E) | popO (i x : Nat) | appPop (f x : Nat) (e : E) | parO (fs : List (Nat × Bool)) (es : Es) | putE (x : Nat) (k v : E) | extO (x : Nat) (e : E) | putD (x : Nat) (as : Es) (v : E) | forD (i : Nat) (g : G) (b : Ss) (ks : List Nat)
  | ret (e : E) | ife (c : T) (a b : Ss) | for (g : G) (it : I) (b : Ss) (ks : List Nat) | whl (c : T) (b : Ss) (ks : List Nat)
  | brk | cont | pass | rais (c : Str) | expr (e : E) | frz (i : Nat) | kill (ks : List Nat)
inductive Ss where
  | nil | cons (s : S) (r : Ss)
end

inductive Slot where
  | no | val (p : PV) | own (p : PV)
abbrev En := List Slot
abbrev Sto := List PV

inductive Out (α : Type) where
  | ok (a : α) (st : Sto) | exn (x : PV) (st : Sto) | bad
def M (α : Type) := Sto → Out α
def M.ret {α : Type} (a : α) : M α := fun st => .ok a st
def M.bad {α : Type} : M α := fun _ => .bad
def M.bnd {α β : Type} (m : M α) (f : α → M β) : M β := fun st => match m st with
  | .ok a st' => f a st'
  | .exn x st' => .exn x st'
  | .bad => .bad
/-- nothing may be raised -/
def M.nox {α : Type} (m : M α) : M α := fun st => match m st with
  | .exn _ _ => .bad
  | r => r
def M.opt {α : Type} : Option α → M α
  | some a => M.ret a
  | none => M.bad


def look : En → Nat → Slot
  | [], _ => .no
  | s :: _, 0 => s
  | _ :: r, n + 1 => look r n
def put : En → Nat → Slot → En
  | [], _, _ => []
  | _ :: r, 0, s => s :: r
  | x :: r, n + 1, s => x :: put r n s
def wipeE (env : En) : List Nat → En
  | [] => env
  | v :: vs => put (wipeE env vs) v .no
def rdV : Slot → Option PV
  | .val p => some p
  | _ => none
def rdO : Slot → Option PV
  | .own p => some p
  | _ => none

/-! ### equality, order -/
mutual
/-- Python's == -/
def eqB : PV → PV → Bool
  | .non, .non => true
  | .bl a, .bl b => a == b
  | .bl a, .int i => (if a then (1 : Int) else 0) == i
  | .int i, .bl b => i == (if b then (1 : Int) else 0)
  | .int i, .int j => i == j
  | .str x, .str y => x == y
  | .tup xs, .tup ys => eqBs xs ys
  | .lst xs, .lst ys => eqBs xs ys
  | _, _ => false
def eqBs : List PV → List PV → Bool
  | [], [] => true
  | x :: xs, y :: ys => eqB x y && eqBs xs ys
  | _, _ => false
end
mutual
/-- plain data, no deeper than n -/
def okD : Nat → PV → Bool
  | _, .non => true
  | _, .bl _ => true
  | _, .int _ => true
  | _, .str x => PyData.strOk x
  | n + 1, .tup xs => okDs n xs
  | n + 1, .lst xs => okDs n xs
  | _, _ => false
def okDs : Nat → List PV → Bool
  | _, [] => true
  | n, x :: xs => okD n x && okDs n xs
end
def eqP (a b : PV) : Option Bool := if okD 30 a && okD 30 b then some (eqB a b) else none

mutual
/-- data of ints and tuples alone that can be compared -/
def alI : PV → PV → Bool
  | .int _, .int _ => true
  | .tup xs, .tup ys => alIs xs ys
  | _, _ => false
def alIs : List PV → List PV → Bool
  | x :: xs, y :: ys => alI x y && alIs xs ys
  | [], _ => true
  | _ :: _, [] => true
end
mutual
/-- Python's <, of such -/
def ltB : PV → PV → Bool
  | .int i, .int j => decide (i < j)
  | .tup xs, .tup ys => ltBs xs ys
  | _, _ => false
def ltBs : List PV → List PV → Bool
  | [], [] => false
  | [], _ :: _ => true
  | _ :: _, [] => false
  | x :: xs, y :: ys => if eqB x y = true then ltBs xs ys else ltB x y
end
def leB (p q : PV) : Bool := !ltB q p
def nTup : PV → Bool
  | .tup (_ :: _) => true
  | _ => false
def isI : PV → Bool
  | .int _ => true
  | _ => false
def alAll (xs : List PV) : Bool := okDs 29 xs && xs.all fun x => xs.all fun y => alI x y
def srtOk (xs : List PV) : Bool := alAll xs && (xs.all nTup || xs.all isI)
def sortP (xs : List PV) : Option PV := if srtOk xs = true ∧ xs.length ≤ 1000000 then some (.lst (xs.mergeSort leB)) else none
def minF (x : PV) (xs : List PV) : PV := xs.foldl (fun a y => if ltB y a = true then y else a) x
def maxF (x : PV) (xs : List PV) : PV := xs.foldl (fun a y => if ltB a y = true then y else a) x
def minT : List PV → Option PV
  | [] => none
  | x :: xs => if alAll (x :: xs) = true then some (minF x xs) else none
def maxT : List PV → Option PV
  | [] => none
  | x :: xs => if alAll (x :: xs) = true then some (maxF x xs) else none
/-- < of two tuples -/
def ltT (p q : PV) : Option Bool := if okD 30 p = true ∧ okD 30 q = true ∧ alI p q = true then some (ltB p q) else none

/-! ### operations -/
def smallB (i : Int) : Bool := decide (-18446744073709551616 < i) && decide (i < 18446744073709551616)
def repL (xs : List PV) (n : Nat) : List PV := (List.replicate n xs).flatten
def binP : Op → PV → PV → Option PV
  | .add, .int i, .int j => some (.int (i + j))
  | .add, .tup xs, .tup ys => if xs.length + ys.length ≤ 1000000 then some (.tup (xs ++ ys)) else none
  | .add, .lst xs, .lst ys => if xs.length + ys.length ≤ 1000000 then some (.lst (xs ++ ys)) else none
  | .sub, .int i, .int j => some (.int (i - j))
  | .mul, .int i, .int j => if smallB i || smallB j then some (.int (i * j)) else none
  | .mul, .tup xs, .int n => if 0 ≤ n ∧ n ≤ 1000 ∧ xs.length ≤ 1000 then some (.tup (repL xs n.toNat)) else none
  | .mul, .lst xs, .int n => if 0 ≤ n ∧ n ≤ 1000 ∧ xs.length ≤ 1000 then some (.lst (repL xs n.toNat)) else none
  | .fdiv, .int i, .int j => if 0 < j ∧ j < 1073741824 then some (.int (i / j)) else none
  | .mod, .int i, .int j => if 0 < j then some (.int (i % j)) else none
  | .pow, .int i, .int j => if 0 ≤ j ∧ j ≤ 1000 ∧ smallB i then some (.int (i ^ j.toNat)) else none
  | _, _, _ => none
def negP : PV → Option PV
  | .int i => some (.int (-i))
  | _ => none
def seqOf : PV → Option (List PV)
  | .tup xs => some xs
  | .lst xs => some xs
  | _ => none
def inL (x : PV) (xs : List PV) : Bool := xs.any fun y => eqB y x
def isP : PV → PV → Option Bool
  | .non, .non => some true
  | .bl _, .non => some false
  | .int _, .non => some false
  | .str _, .non => some false
  | .tup _, .non => some false
  | .lst _, .non => some false
  | .bl a, .bl b => some (a == b)
  | _, _ => none
def cmpP : Cop → PV → PV → Option PV
  | .eq, a, b => (eqP a b).map .bl
  | .ne, a, b => (eqP a b).map fun c => .bl (!c)
  | .lt, .int i, .int j => some (.bl (decide (i < j)))
  | .le, .int i, .int j => some (.bl (decide (i ≤ j)))
  | .gt, .int i, .int j => some (.bl (decide (j < i)))
  | .ge, .int i, .int j => some (.bl (decide (j ≤ i)))
  | .lt, .tup xs, .tup ys => (ltT (.tup xs) (.tup ys)).map .bl
  | .gt, .tup xs, .tup ys => (ltT (.tup ys) (.tup xs)).map .bl
  | .le, .tup xs, .tup ys => (ltT (.tup ys) (.tup xs)).map fun c => .bl (!c)
  | .ge, .tup xs, .tup ys => (ltT (.tup xs) (.tup ys)).map fun c => .bl (!c)
  | .isin, a, .lst ys => if okD 30 a && okD 30 (.lst ys) then some (.bl (inL a ys)) else none
  | .isin, a, .tup ys => if okD 30 a && okD 30 (.tup ys) then some (.bl (inL a ys)) else none
  | .notin, a, .lst ys => if okD 30 a && okD 30 (.lst ys) then some (.bl (!inL a ys)) else none
  | .notin, a, .tup ys => if okD 30 a && okD 30 (.tup ys) then some (.bl (!inL a ys)) else none
  | .is_, a, b => (isP a b).map .bl
  | .isnot, a, b => (isP a b).map fun c => .bl (!c)
  | _, _, _ => none
/-- the item at an index, from the end if it is below nought -/
def atL (xs : List PV) (i : Int) : Option PV := if 0 ≤ i then xs[i.toNat]? else if 0 ≤ xs.length + i then xs[(xs.length + i).toNat]? else none
def ixP : PV → PV → Option PV
  | .tup xs, .int i => atL xs i
  | .lst xs, .int i => atL xs i
  | _, _ => none
def ixS : Sto → PV → PV → Option PV
  | st, .cel k, .int i => match st[k]? with
    | some (.lst xs) => atL xs i
    | _ => none
  | _, a, b => ixP a b
def cutIx (n d : Nat) : Option Int → Nat
  | none => d
  | some i => if i < 0 then ((n : Int) + i).toNat else min i.toNat n
def cutL (xs : List PV) (lo hi : Option Int) : List PV := (xs.drop (cutIx xs.length 0 lo)).take (cutIx xs.length xs.length hi - cutIx xs.length 0 lo)
def slP : PV → Option Int → Option Int → Option PV
  | .tup xs, lo, hi => some (.tup (cutL xs lo hi))
  | .lst xs, lo, hi => some (.lst (cutL xs lo hi))
  | _, _, _ => none
def revP : PV → Option PV
  | .lst xs => some (.lst xs.reverse)
  | _ => none
def popL (xs : List PV) : Option (PV × List PV) := match xs[xs.length - 1]? with
  | some y => some (y, xs.take (xs.length - 1))
  | none => none
def intsOf : List PV → Option (List Int)
  | [] => some []
  | .int i :: r => (intsOf r).map (i :: ·)
  | _ => none
/-! dicts whose keys are tuples of ints, whose values are scalars -/
def keyP : PV → Option (List Int)
  | .tup xs => intsOf xs
  | _ => none
def keyD (p : PV) : List Int := (keyP p).getD []
def scB : PV → Bool
  | .non => true
  | .bl _ => true
  | .int _ => true
  | .str _ => true
  | _ => false
def putKP (kvs : List (PV × PV)) (k v : PV) : List (PV × PV) :=
  if (kvs.any fun kv => decide (keyD kv.1 = keyD k)) = true then kvs.map (fun kv => if keyD kv.1 = keyD k then (kv.1, v) else kv) else kvs ++ [(k, v)]
def dOk (kvs : List (PV × PV)) : Bool := kvs.all fun kv => (keyP kv.1).isSome && scB kv.2
def nubL : List (List Int) → List (List Int)
  | [] => []
  | x :: r => if x ∈ r then nubL r else x :: nubL r
def nubI : List Int → List Int
  | [] => []
  | x :: r => if x ∈ r then nubI r else x :: nubI r
/-- how many unlike tuples of ints stand in a list, or unlike ints in a tuple -/
def lsetP : PV → Option PV
  | .lst xs => if xs.length < 64 ∧ (xs.all fun x => (keyP x).isSome) = true then some (.int ((nubL (xs.map keyD)).length : Nat)) else none
  | .tup xs => match intsOf xs with
    | some ns => if ns.length < 64 then some (.int ((nubI ns).length : Nat)) else none
    | none => none
  | _ => none
def blsOf : List PV → Option (List Bool)
  | [] => some []
  | .bl i :: r => (blsOf r).map (i :: ·)
  | _ => none
def sumI : List Int → Int
  | [] => 0
  | x :: r => x + sumI r
def maxI : Int → List Int → Int
  | m, [] => m
  | m, x :: r => maxI (if m < x then x else m) r
def minI : Int → List Int → Int
  | m, [] => m
  | m, x :: r => minI (if x < m then x else m) r
def maxO : List Int → Option PV
  | [] => none
  | x :: r => some (.int (maxI x r))
def minO : List Int → Option PV
  | [] => none
  | x :: r => some (.int (minI x r))
def bfP : Bf → List PV → Option PV
  | .len, [.tup xs] => some (.int xs.length)
  | .len, [.lst xs] => some (.int xs.length)
  | .max, [.int i, .int j] => some (.int (if j > i then j else i))
  | .min, [.int i, .int j] => some (.int (if j < i then j else i))
  | .abs, [.int i] => some (.int (if i < 0 then -i else i))
  | .int, [.int i] => some (.int i)
  | .int, [.bl b] => some (.int (if b then 1 else 0))
  | .tuple, [.tup xs] => some (.tup xs)
  | .tuple, [.lst xs] => some (.tup xs)
  | .list, [.tup xs] => some (.lst xs)
  | .list, [.lst xs] => some (.lst xs)
  | .list, [.scr ns] => some (.lst (ns.map .int))
  | .sum, [.lst xs] => (intsOf xs).map fun ns => .int (sumI ns)
  | .all, [.lst xs] => (blsOf xs).map fun bs => .bl (bs.all id)
  | .any, [.lst xs] => (blsOf xs).map fun bs => .bl (bs.any id)
  | .max, [.lst xs] => match intsOf xs with
    | some ns => maxO ns
    | none => maxT xs
  | .min, [.lst xs] => match intsOf xs with
    | some ns => minO ns
    | none => minT xs
  | .sorted, [.lst xs] => sortP xs
  | .sorted, [.dct kvs] => if srtOk (kvs.map (·.1)) = true then sortP (kvs.map (·.1)) else none
  | .sorted, [.tup xs] => sortP xs
  | .max, [.tup xs] => maxT xs
  | .min, [.tup xs] => minT xs
  | _, _ => none
def isiP : PV → Ty → Option Bool
  | .cel _, _ => none
  | .scr _, _ => none
  | .exc _ _, _ => none
  | .glb _, _ => none
  | .dct _, _ => none
  | .set _, _ => none
  | .int _, .int => some true
  | .bl _, .int => some true
  | .bl _, .bool => some true
  | .str _, .str => some true
  | .tup _, .tuple => some true
  | .lst _, .list => some true
  | _, _ => some false
def truthP : PV → Option Bool
  | .bl b => some b
  | _ => none
def range1 : PV → Option (List PV)
  | .int n => if -1000000000 ≤ n ∧ n ≤ 1000000 then some ((List.range n.toNat).map fun (i : Nat) => PV.int (i : Int)) else none
  | _ => none
def range2 : PV → PV → Option (List PV)
  | .int a, .int b => if -1000000000 ≤ a ∧ a ≤ 1000000000 ∧ b ≤ 1000000000 ∧ -1000000000 ≤ b ∧ b - a ≤ 1000000 then some ((List.range (b - a).toNat).map fun (i : Nat) => PV.int (a + (i : Int))) else none
  | _, _ => none
def range3 : PV → PV → PV → Option (List PV)
  | .int a, .int b, .int c => if c = -1 ∧ -1000000000 ≤ a ∧ a ≤ 1000000000 ∧ b ≤ 1000000000 ∧ -1000000000 ≤ b ∧ a - b ≤ 1000000 then some ((List.range (a - b).toNat).map fun (i : Nat) => PV.int (a - (i : Int))) else none
  | _, _, _ => none
def pairs2 : List PV → List PV → List PV
  | x :: xs, y :: ys => .tup [x, y] :: pairs2 xs ys
  | _, _ => []
def enumL (n : Nat) : List PV → List PV
  | [] => []
  | x :: xs => .tup [.int n, x] :: enumL (n + 1) xs
def zipP : PV → PV → Option (List PV)
  | .tup xs, .tup ys => some (pairs2 xs ys)
  | .lst xs, .lst ys => some (pairs2 xs ys)
  | _, _ => none
def enumP : PV → Option (List PV)
  | .lst xs => some (enumL 0 xs)
  | .tup xs => some (enumL 0 xs)
  | _ => none

def M.ix (x y : PV) : M PV := fun st => M.opt (ixS st x y) st
/-- a new cell -/
def M.alloc (x : PV) : M PV := fun st => match x with
  | .lst _ => .ok (.cel st.length) (st ++ [x])
  | _ => .bad
/-! ### targets -/
mutual
def bindG : G → PV → En → Option En
  | .name i, p, env => if i < env.length then some (put env i (.val p)) else none
  | .tup gs, .tup ps, env => bindGs gs ps env
  | .tup _, _, _ => none
def bindGs : Gs → List PV → En → Option En
  | .nil, [], env => some env
  | .cons g r, p :: ps, env => (bindG g p env).bind fun env' => bindGs r ps env'
  | _, _, _ => none
end

/-! ### expressions -/
def compL (f : PV → M (Option PV)) : List PV → M (List PV)
  | [] => M.ret []
  | x :: xs => M.bnd (f x) fun o => M.bnd (compL f xs) fun r => M.ret (match o with
    | some y => y :: r
    | none => r)
def compLL (f : PV → M (List PV)) : List PV → M (List PV)
  | [] => M.ret []
  | x :: xs => M.bnd (f x) fun o => M.bnd (compLL f xs) fun r => M.ret (o ++ r)

section
variable (Φ : Nat → List PV → M PV)
mutual
def evE : E → En → M PV
  | .var i, env => M.opt (rdV (look env i))
  | .own i, env => M.opt (rdO (look env i))
  | .non, _ => M.ret .non
  | .bl b, _ => M.ret (.bl b)
  | .int i, _ => M.ret (.int i)
  | .str x, _ => M.ret (.str x)
  | .gint _ i, _ => M.ret (.int i)
  | .bin o a b, env => M.bnd (evE a env) fun x => M.bnd (evE b env) fun y => M.opt (binP o x y)
  | .neg a, env => M.bnd (evE a env) fun x => M.opt (negP x)
  | .cmp o a b, env => M.bnd (evE a env) fun x => M.bnd (evE b env) fun y => M.opt (cmpP o x y)
  | .cmp2 o p a b c, env => M.bnd (evE a env) fun x => M.bnd (evE b env) fun y => M.bnd (M.opt (cmpP o x y)) fun z => match z with
    | .bl true => M.bnd (evE c env) fun u => M.opt (cmpP p y u)
    | .bl false => M.ret (.bl false)
    | _ => M.bad
  | .bo isAnd as, env => evBo isAnd as env
  | .not a, env => M.bnd (evE a env) fun x => match x with
    | .bl b => M.ret (.bl (!b))
    | _ => M.bad
  | .ite c a b, env => M.bnd (evT c env) fun t => match t with
    | true => evE a env
    | false => evE b env
  | .tup as, env => M.bnd (evEs as env) fun xs => M.ret (.tup xs)
  | .lst as, env => M.bnd (evEs as env) fun xs => M.ret (.lst xs)
  | .ix a b, env => M.bnd (evE a env) fun x => M.bnd (evE b env) fun y => M.ix x y
  | .sl a lo hi, env => M.bnd (evE a env) fun x => M.bnd (evOe lo env) fun l => M.bnd (evOe hi env) fun h => M.opt (slP x l h)
  | .rev a, env => M.bnd (evE a env) fun x => M.opt (revP x)
  | .bc f as, env => M.bnd (evEs as env) fun xs => M.opt (bfP f xs)
  | .isi a t, env => M.bnd (evE a env) fun x => M.bnd (M.opt (isiP x t)) fun b => M.ret (.bl b)
  | .call f as, env => M.bnd (evEs as env) fun xs => Φ f xs
  | .cel a, env => M.bnd (evE a env) M.alloc
  | .rg1 t a, env => M.bnd (evE a env) fun x => M.opt ((range1 x).map (if t then .tup else .lst))
  | .rg2 t a b, env => M.bnd (evE a env) fun x => M.bnd (evE b env) fun y => M.opt ((range2 x y).map (if t then .tup else .lst))
  | .rpl a b, env => M.bnd (evE a env) fun x => M.bnd (evE b env) fun y => match x with
    | .lst _ => M.opt (binP .mul x y)
    | _ => M.bad
  | .lof a, env => M.bnd (evE a env) fun x => M.opt ((seqOf x).map .lst)
  | .lset a, env => M.bnd (evE a env) fun x => M.opt (lsetP x)
  | .dnew, _ => M.ret (.dct [])
  | .dlit as v, env => M.bnd (evEs as env) fun xs => M.bnd (evE v env) fun y => if dOk [(.tup xs, y)] = true then M.ret (.dct [(.tup xs, y)]) else M.bad
  | .compD i elt g cs vs, env => match look env i with
    | .val (.dct kvs) => M.bnd (M.nox (compL (fun x => match bindG g x (wipeE env vs) with
      | none => M.bad
      | some env1 => M.bnd (evTs cs env1) fun b => match b with
        | true => M.bnd (evE elt env1) fun y => M.ret (some y)
        | false => M.ret none) (kvs.map (·.1)))) fun r => M.ret (.lst r)
    | _ => M.bad
  | .comp elt g it cs vs, env => M.bnd (evI it env) fun its => M.bnd (M.nox (compL (fun x => match bindG g x (wipeE env vs) with
    | none => M.bad
    | some env1 => M.bnd (evTs cs env1) fun b => match b with
      | true => M.bnd (evE elt env1) fun y => M.ret (some y)
      | false => M.ret none) its)) fun r => M.ret (.lst r)
  | .comp2 elt g it cs g1 it1 cs1 vs vs1, env => M.bnd (evI it env) fun its => M.bnd (M.nox (compLL (fun x => match bindG g x (wipeE env vs) with
    | none => M.bad
    | some env1 => M.bnd (evTs cs env1) fun b => match b with
      | true => M.bnd (evI it1 env1) fun its1 => compL (fun x1 => match bindG g1 x1 (wipeE env1 vs1) with
        | none => M.bad
        | some env2 => M.bnd (evTs cs1 env2) fun b1 => match b1 with
          | true => M.bnd (evE elt env2) fun y => M.ret (some y)
          | false => M.ret none) its1
      | false => M.ret []) its)) fun r => if r.length ≤ 1000000 then M.ret (.lst r) else M.bad
def evEs : Es → En → M (List PV)
  | .nil, _ => M.ret []
  | .cons e r, env => M.bnd (evE e env) fun x => M.bnd (evEs r env) fun xs => M.ret (x :: xs)
def evOe : Oe → En → M (Option Int)
  | .no, _ => M.ret none
  | .yes e, env => M.bnd (evE e env) fun x => match x with
    | .int i => M.ret (some i)
    | _ => M.bad
def evBo (isAnd : Bool) : Es → En → M PV
  | .nil, _ => M.bad
  | .cons e r, env => M.bnd (evE e env) fun x => match r with
    | .nil => M.ret x
    | .cons e' r' => match x with
      | .bl b => if b = isAnd then evBo isAnd r env else M.ret (.bl b)
      | _ => M.bad
def evT : T → En → M Bool
  | .e a, env => M.bnd (evE a env) fun x => M.opt (truthP x)
  | .cmp o a b, env => M.bnd (evE a env) fun x => M.bnd (evE b env) fun y => M.bnd (M.opt (cmpP o x y)) fun z => M.opt (truthP z)
  | .cmp2 o p a b c, env => M.bnd (evE a env) fun x => M.bnd (evE b env) fun y => M.bnd (M.opt (cmpP o x y)) fun z => match z with
    | .bl true => M.bnd (evE c env) fun u => M.bnd (M.opt (cmpP p y u)) fun z => M.opt (truthP z)
    | .bl false => M.ret false
    | _ => M.bad
  | .bo isAnd ts, env => evBoT isAnd ts env
  | .not t, env => M.bnd (evT t env) fun b => M.ret (!b)
def evBoT (isAnd : Bool) : Ts → En → M Bool
  | .nil, _ => M.bad
  | .cons t r, env => M.bnd (evT t env) fun b => match r with
    | .nil => M.ret b
    | .cons t' r' => if b = isAnd then evBoT isAnd r env else M.ret b
def evTs : Ts → En → M Bool
  | .nil, _ => M.ret true
  | .cons t .nil, env => evT t env
  | .cons t (.cons _ _), _ => M.bad
def evI : I → En → M (List PV)
  | .val e, env => M.bnd (evE e env) fun x => M.opt (seqOf x)
  | .r1 a, env => M.bnd (evE a env) fun x => M.opt (range1 x)
  | .r2 a b, env => M.bnd (evE a env) fun x => M.bnd (evE b env) fun y => M.opt (range2 x y)
  | .r3 a b c, env => M.bnd (evE a env) fun x => M.bnd (evE b env) fun y => M.bnd (evE c env) fun z => M.opt (range3 x y z)
  | .zip a b, env => M.bnd (evE a env) fun x => M.bnd (evE b env) fun y => M.opt (zipP x y)
  | .enum a, env => M.bnd (evE a env) fun x => M.opt (enumP x)
end

/-! ### statements -/
inductive Fl where
  | nx (env : En) | rt (v : PV) | bk (env : En) | ct (env : En)
inductive SOut where
  | ok (f : Fl) (st : Sto) | exn (x : PV) (env : En) (st : Sto) | bad
def lift {α : Type} (m : M α) (env : En) (st : Sto) (f : α → Sto → SOut) : SOut := match m st with
  | .ok a st' => f a st'
  | .exn x st' => .exn x env st'
  | .bad => .bad
def kills (env : En) (ks : List Nat) : En := wipeE env ks
def forL (f : PV → En → Sto → SOut) (ks : List Nat) : List PV → En → Sto → SOut
  | [], env, st => .ok (.nx env) st
  | x :: xs, env, st => match f x env st with
    | .ok (.nx env') st' => forL f ks xs (kills env' ks) st'
    | .ok (.ct env') st' => forL f ks xs (kills env' ks) st'
    | .ok (.bk env') st' => .ok (.nx (kills env' ks)) st'
    | r => r
def bindS (g : G) (k : En → Sto → SOut) : PV → En → Sto → SOut := fun x env st => match bindG g x env with
  | some env' => k env' st
  | none => .bad
def whlL (c : En → M Bool) (f : En → Sto → SOut) (ks : List Nat) : Nat → En → Sto → SOut
  | 0, _, _ => .bad
  | n + 1, env, st => lift (c env) env st fun b st' => match b with
    | false => .ok (.nx env) st'
    | true => match f env st' with
      | .ok (.nx env') st' => whlL c f ks n (kills env' ks) st'
      | .ok (.ct env') st' => whlL c f ks n (kills env' ks) st'
      | .ok (.bk env') st' => .ok (.nx (kills env' ks)) st'
      | r => r
abbrev FUEL : Nat := 1000000000000000000000000000000
def putAll (env : En) : List Nat → List PV → Option En
  | [], [] => some env
  | i :: is, p :: ps => if i < env.length then putAll (put env i (.val p)) is ps else none
  | _, _ => none
def setL (xs : List PV) (i : Int) (p : PV) : Option (List PV) := if 0 ≤ i ∧ i < xs.length then some (xs.set i.toNat p) else none
def setN (xs : List PV) (i : Int) (p : PV) : Option (List PV) := if 0 ≤ i ∧ i < xs.length then some (xs.set i.toNat p) else if i < 0 ∧ 0 ≤ (xs.length : Int) + i then some (xs.set ((xs.length : Int) + i).toNat p) else none
def putO1 (env : En) (i : Nat) (o : Bool) (p : PV) : Option En := if i < env.length then (match o, p with
  | false, p => some (put env i (.val p))
  | true, .lst xs => some (put env i (.own (.lst xs)))
  | true, .dct xs => some (put env i (.own (.dct xs)))
  | true, _ => none) else none
def putAllO (env : En) : List (Nat × Bool) → List PV → Option En
  | [], [] => some env
  | (i, o) :: is, p :: ps => (putO1 env i o p).bind fun env' => putAllO env' is ps
  | _, _ => none
mutual
def evS : S → En → Sto → SOut
  | .asg g e, env, st => lift (evE Φ e env) env st fun x st' => match bindG g x env with
    | some env' => .ok (.nx env') st'
    | none => .bad
  | .par is es, env, st => lift (evEs Φ es env) env st fun xs st' => match putAll env is xs with
    | some env' => .ok (.nx env') st'
    | none => .bad
  | .aug i o e, env, st => match rdV (look env i) with
    | some x => lift (evE Φ e env) env st fun y st' => match binP o x y with
      | some z => .ok (.nx (put env i (.val z))) st'
      | none => .bad
    | none => .bad
  | .asgO i e, env, st => lift (evE Φ e env) env st fun x st' => match x with
    | .lst xs => if i < env.length then .ok (.nx (put env i (.own (.lst xs)))) st' else .bad
    | .dct xs => if i < env.length then .ok (.nx (put env i (.own (.dct xs)))) st' else .bad
    | _ => .bad
  | .app x e, env, st => match look env x with
    | .own (.lst xs) => lift (evE Φ e env) env st fun v st' => if xs.length < 1000000 then .ok (.nx (put env x (.own (.lst (xs ++ [v]))))) st' else .bad
    | _ => .bad
  | .setO x i e, env, st => match look env x with
    | .own (.lst xs) => lift (evE Φ e env) env st fun z st1 => lift (evE Φ i env) env st1 fun y st2 => match y with
      | .int j => match setN xs j z with
        | some ys => .ok (.nx (put env x (.own (.lst ys)))) st2
        | none => .bad
      | _ => .bad
    | _ => .bad
  | .popO i x, env, st => match look env x with
    | .own (.lst xs) => match popL xs with
      | some (y, ys) => if i < env.length then .ok (.nx (put (put env x (.own (.lst ys))) i (.val y))) st else .bad
      | none => .bad
    | _ => .bad
  | .parO fs es, env, st => lift (evEs Φ es env) env st fun xs st' => match putAllO env fs xs with
    | some env' => .ok (.nx env') st'
    | none => .bad
  | .appPop f x e, env, st => match look env x with
    | .own (.lst xs) => match look env f with
      | .own (.lst fs) => lift (evE Φ e env) env st fun v st' => match v with
        | .int j => if 0 ≤ j ∧ j < 1000000 ∧ f ≠ x ∧ fs.length < 1000000 then (match xs[j.toNat]? with
          | some y => .ok (.nx (put (put env x (.own (.lst (xs.eraseIdx j.toNat)))) f (.own (.lst (fs ++ [y]))))) st'
          | none => .bad) else .bad
        | _ => .bad
      | _ => .bad
    | _ => .bad
  | .putE x c v, env, st => match look env x with
    | .own (.dct kvs) => lift (evE Φ v env) env st fun z st1 => lift (evE Φ c env) env st1 fun y st2 => match y with
      | .lst xs => if (intsOf xs).isSome = true ∧ scB z = true ∧ kvs.length < 1000000 then .ok (.nx (put env x (.own (.dct (putKP kvs (.tup xs) z))))) st2 else .bad
      | _ => .bad
    | _ => .bad
  | .extO x e, env, st => match look env x with
    | .own (.lst xs) => lift (evE Φ e env) env st fun v st' => match v with
      | .lst ys => if xs.length + ys.length ≤ 1000000 then .ok (.nx (put env x (.own (.lst (xs ++ ys))))) st' else .bad
      | _ => .bad
    | _ => .bad
  | .frz i, env, st => match look env i with
    | .own (.lst xs) => .ok (.nx (put env i (.val (.lst xs)))) st
    | .own (.dct xs) => .ok (.nx (put env i (.val (.dct xs)))) st
    | _ => .bad
  | .putD x as v, env, st => match look env x with
    | .own (.dct kvs) => lift (evE Φ v env) env st fun z st1 => lift (evEs Φ as env) env st1 fun xs st2 => if (intsOf xs).isSome = true ∧ scB z = true ∧ kvs.length < 1000000 then .ok (.nx (put env x (.own (.dct (putKP kvs (.tup xs) z))))) st2 else .bad
    | _ => .bad
  | .forD i g b ks, env, st => match look env i with
    | .val (.dct kvs) => match forL (bindS g (evSs b)) ks (kvs.map (·.1)) env st with
      | .ok (.nx env') st' => .ok (.nx env') st'
      | _ => .bad
    | _ => .bad
  | .setC c i e, env, st => lift (evE Φ e env) env st fun z st1 => lift (evE Φ c env) env st1 fun x st2 => lift (evE Φ i env) env st2 fun y st3 => match x, y with
    | .cel k, .int j => match st3[k]? with
      | some (.lst xs) => match setL xs j z with
        | some ys => .ok (.nx env) (st3.set k (.lst ys))
        | none => .bad
      | _ => .bad
    | _, _ => .bad
  | .ret e, env, st => lift (evE Φ e env) env st fun x st' => .ok (.rt x) st'
  | .ife c a b, env, st => lift (evT Φ c env) env st fun t st' => match t with
    | true => evSs a env st'
    | false => evSs b env st'
  | .for g it b ks, env, st => lift (evI Φ it env) env st fun its st' => forL (bindS g (evSs b)) ks its env st'
  | .whl c b ks, env, st => whlL (evT Φ c) (evSs b) ks FUEL env st
  | .brk, env, st => .ok (.bk env) st
  | .cont, env, st => .ok (.ct env) st
  | .pass, env, st => .ok (.nx env) st
  | .expr e, env, st => lift (evE Φ e env) env st fun _ st' => .ok (.nx env) st'
  | .kill ks, env, st => .ok (.nx (kills env ks)) st
  | _, _, _ => .bad
def evSs : Ss → En → Sto → SOut
  | .nil, env, st => .ok (.nx env) st
  | .cons s r, env, st => match evS s env st with
    | .ok (.nx env') st' => evSs r env' st'
    | x => x
end
end

/-! ### defs -/
structure Def where
  name : Str
  np : Nat
  nl : Nat
  body : Ss
def enter (d : Def) (args : List PV) : En := args.map .val ++ List.replicate (d.nl - args.length) .no
def runDef (Φ : Nat → List PV → M PV) (d : Def) (args : List PV) : M PV := fun st =>
  if args.length = d.np then (match evSs Φ d.body (enter d args) st with
    | .ok (.rt v) st' => .ok v st'
    | .ok (.nx _) st' => .ok .non st'
    | .exn x _ st' => .exn x st'
    | _ => .bad) else .bad
def callN (ds : List Def) : Nat → Nat → List PV → M PV
  | 0, _, _ => M.bad
  | n + 1, f, args => match ds[f]? with
    | some d => runDef (callN ds n) d args
    | none => M.bad
end Pv

/-! P2: how the machine's values stand for pure ones. -/
namespace Pv
open PySem PySem.Spec PyProof.Rows L2

def scV : PV → V
  | .bl b => .bl b
  | .int i => .int i
  | .str x => .str x
  | _ => .non
def fD (kv : PV × PV) : List L2.Key × V := ((keyD kv.1).map Sum.inl, scV kv.2)
theorem keyD_inj {a b : PV} : ((keyD a).map Sum.inl : List L2.Key) = (keyD b).map Sum.inl ↔ keyD a = keyD b := by
  constructor
  · intro h
    have e : ∀ xs ys : List Int, (xs.map Sum.inl : List L2.Key) = ys.map Sum.inl → xs = ys := by
      intro xs
      induction xs with
      | nil => intro ys h; cases ys with
        | nil => rfl
        | cons _ _ => cases h
      | cons x xs ih => intro ys h; cases ys with
        | nil => cases h
        | cons y ys =>
          simp only [List.map_cons, List.cons.injEq, Sum.inl.injEq] at h
          rw [h.1, ih ys h.2]
    exact e _ _ h
  · intro h; rw [h]
theorem fD_put (kvs : List (PV × PV)) (k v : PV) : (putKP kvs k v).map fD = L2.putK (kvs.map fD) ((keyD k).map Sum.inl) (scV v) := by
  unfold putKP L2.putK
  have e1 : ((kvs.map fD).any fun kv => decide (kv.1 = (keyD k).map Sum.inl)) = kvs.any fun kv => decide (keyD kv.1 = keyD k) := by
    rw [List.any_map]
    congr 1
    funext kv
    exact decide_eq_decide.mpr keyD_inj
  rw [e1]
  split
  · rw [List.map_map, List.map_map]
    congr 1
    funext kv
    by_cases h : keyD kv.1 = keyD k
    · show fD (if keyD kv.1 = keyD k then (kv.1, v) else kv) = if (fD kv).1 = (keyD k).map Sum.inl then ((fD kv).1, scV v) else fD kv
      have hk : (fD kv).1 = (keyD k).map Sum.inl := keyD_inj.mpr h
      rw [if_pos h, if_pos hk]
      rfl
    · show fD (if keyD kv.1 = keyD k then (kv.1, v) else kv) = if (fD kv).1 = (keyD k).map Sum.inl then ((fD kv).1, scV v) else fD kv
      have hk : ¬ (fD kv).1 = (keyD k).map Sum.inl := fun z => h (keyD_inj.mp z)
      rw [if_neg h, if_neg hk]
  · rw [List.map_append]; rfl
theorem dOk_put {kvs : List (PV × PV)} {k v : PV} (h : dOk kvs = true) (hk : (keyP k).isSome = true) (hv : scB v = true) : dOk (putKP kvs k v) = true := by
  unfold dOk putKP at *
  rw [List.all_eq_true] at *
  intro kv hm
  split at hm
  · obtain ⟨x, hx, rfl⟩ := List.mem_map.mp hm
    have hx' := h x hx
    split
    · rw [Bool.and_eq_true] at hx' ⊢
      exact ⟨hx'.1, hv⟩
    · exact hx'
  · rcases List.mem_append.mp hm with hm | hm
    · exact h kv hm
    · rw [List.mem_singleton.mp hm, hk, hv]; rfl
mutual
inductive Rep (K : PySem.W.Frag) (F : Addr → Prop) (ρ : List Addr) (H : Hp) : V → PV → Prop
  | non : Rep K F ρ H .non .non
  | bl (b : Bool) : Rep K F ρ H (.bl b) (.bl b)
  | int (i : Int) : Rep K F ρ H (.int i) (.int i)
  | str (x : Str) : Rep K F ρ H (.str x) (.str x)
  | tup {a : Addr} {vs : List V} {ps : List PV} : F a → H a = some (.tup vs) → RepL K F ρ H vs ps → Rep K F ρ H (.ref a) (.tup ps)
  | lst {a : Addr} {vs : List V} {ps : List PV} : F a → H a = some (.lst vs) → RepL K F ρ H vs ps → Rep K F ρ H (.ref a) (.lst ps)
  | scr {a : Addr} {ns : List Int} : ((F a ∧ SqL K H a (ns.map V.int)) ∨ ∀ H1, SqL K H1 a (ns.map V.int)) → Rep K F ρ H (.ref a) (.scr ns)
  | cel {a : Addr} {k : Nat} : ρ[k]? = some a → Rep K F ρ H (.ref a) (.cel k)
  | dct {a : Addr} {kvs : List (PV × PV)} : F a → Rd H a (.dT (kvs.map fD)) → dOk kvs = true → Rep K F ρ H (.ref a) (.dct kvs)
inductive RepL (K : PySem.W.Frag) (F : Addr → Prop) (ρ : List Addr) (H : Hp) : List V → List PV → Prop
  | nil : RepL K F ρ H [] []
  | cons {v : V} {p : PV} {vs : List V} {ps : List PV} : Rep K F ρ H v p → RepL K F ρ H vs ps → RepL K F ρ H (v :: vs) (p :: ps)
end

/-- what stands for pure values stays -/
structure Sx (F : Addr → Prop) (ρ : List Addr) (H : Hp) (F' : Addr → Prop) (ρ' : List Addr) (H' : Hp) : Prop where
  sub : ∀ a, F a → F' a
  keep : ∀ a o, F a → H a = some o → H' a = some o
  cel : ∀ (k : Nat) (a : Addr), ρ[k]? = some a → ρ'[k]? = some a
/-- an expression's turn: all that was tracked stays but for the cells -/
structure Ext (F : Addr → Prop) (ρ : List Addr) (H : Hp) (F' : Addr → Prop) (ρ' : List Addr) (H' : Hp) : Prop where
  sub : ∀ a, F a → F' a
  new : ∀ a, F' a → F a ∨ H a = none ∨ (a ∉ ρ ∧ ∃ vs, H a = some (.tup vs))
  keep : ∀ a o, H a = some o → a ∉ ρ → H' a = some o
  track : ∀ a, H' a = none → H a = none
  cel : ∀ (k : Nat) (a : Addr), ρ[k]? = some a → ρ'[k]? = some a
  celn : ∀ a, a ∈ ρ' → a ∈ ρ ∨ H a = none
section
variable {K : PySem.W.Frag} {F F' F'' : Addr → Prop} {ρ ρ' ρ'' : List Addr} {H H' H'' : Hp}
theorem Sx.refl : Sx F ρ H F ρ H := ⟨fun _ h => h, fun _ _ _ h => h, fun _ _ h => h⟩
theorem Sx.trans (a : Sx F ρ H F' ρ' H') (b : Sx F' ρ' H' F'' ρ'' H'') : Sx F ρ H F'' ρ'' H'' :=
  ⟨fun x h => b.sub x (a.sub x h), fun x o f h => b.keep x o (a.sub x f) (a.keep x o f h), fun k x h => b.cel k x (a.cel k x h)⟩
theorem Ext.refl : Ext F ρ H F ρ H := ⟨fun _ h => h, fun _ h => .inl h, fun _ _ h _ => h, fun _ h => h, fun _ _ h => h, fun _ h => .inl h⟩
theorem Ext.trans (a : Ext F ρ H F' ρ' H') (b : Ext F' ρ' H' F'' ρ'' H'') : Ext F ρ H F'' ρ'' H'' := by
  refine ⟨fun x h => b.sub x (a.sub x h), fun x h => ?_, fun x o h n => ?_, fun x h => a.track x (b.track x h), fun k x h => b.cel k x (a.cel k x h), fun x h => ?_⟩
  · rcases b.new x h with h | h | ⟨h, vs, e⟩
    · exact a.new x h
    · exact .inr (.inl (a.track x h))
    · cases hx : H x with
      | none => exact .inr (.inl rfl)
      | some o =>
        have nr : x ∉ ρ := fun m => by
          obtain ⟨k, hk, ek⟩ := List.getElem_of_mem m
          exact h (List.mem_of_getElem? (a.cel k x (by rw [List.getElem?_eq_getElem hk, ek])))
        have e2 := a.keep x o hx nr
        rw [e] at e2
        cases e2
        exact .inr (.inr ⟨nr, vs, rfl⟩)
  · refine b.keep x o (a.keep x o h n) fun hm => ?_
    rcases a.celn x hm with z | z
    · exact n z
    · rw [h] at z; cases z
  · rcases b.celn x h with h | h
    · exact a.celn x h
    · exact .inr (a.track x h)
theorem Ext.sx (e : Ext F ρ H F' ρ' H') (dis : ∀ a ∈ ρ, ¬ F a) : Sx F ρ H F' ρ' H' := ⟨e.sub, fun a o f h => e.keep a o h fun m => dis a m f, e.cel⟩

theorem rd_keep {a : Addr} {u : HO} (k : ∀ o, H a = some o → H' a = some o) (h : Rd H a u) : Rd H' a u := by
  rcases h with h | ⟨o, h⟩
  · exact .inl (k _ h)
  · exact .inr ⟨o, k _ h⟩
theorem sqT_keep {a : Addr} {vs : List V} (k : ∀ o, H a = some o → H' a = some o) (h : SqT K H a vs) : SqT K H' a vs := by
  rcases h with (h | ⟨o, h⟩) | h
  · exact .inl (.inl (k _ h))
  · exact .inl (.inr ⟨o, k _ h⟩)
  · exact .inr h
theorem sqL_keep {a : Addr} {vs : List V} (k : ∀ o, H a = some o → H' a = some o) (h : SqL K H a vs) : SqL K H' a vs := by
  rcases h with (h | ⟨o, h⟩) | h
  · exact .inl (.inl (k _ h))
  · exact .inl (.inr ⟨o, k _ h⟩)
  · exact .inr h

mutual
theorem Rep.mono (e : Sx F ρ H F' ρ' H') : ∀ (p : PV) (v : V), Rep K F ρ H v p → Rep K F' ρ' H' v p
  | .non, _, h => by cases h; exact .non
  | .bl _, _, h => by cases h; exact .bl _
  | .int _, _, h => by cases h; exact .int _
  | .str _, _, h => by cases h; exact .str _
  | .tup ps, _, h => by
    cases h with
    | tup f s r => exact .tup (e.sub _ f) (e.keep _ _ f s) (RepL.mono e ps _ r)
  | .lst ps, _, h => by
    cases h with
    | lst f s r => exact .lst (e.sub _ f) (e.keep _ _ f s) (RepL.mono e ps _ r)
  | .scr ns, _, h => by
    cases h with
    | scr h => exact .scr (h.elim (fun q => .inl ⟨e.sub _ q.1, sqL_keep (fun o z => e.keep _ o q.1 z) q.2⟩) .inr)
  | .cel k, _, h => by
    cases h with
    | cel q => exact .cel (e.cel _ _ q)
  | .dct _, _, h => by
    cases h with
    | dct f s o => exact .dct (e.sub _ f) (rd_keep (fun o q => e.keep _ o f q) s) o
  | .set _, _, h => by cases h
  | .exc _ _, _, h => by cases h
  | .glb _, _, h => by cases h
theorem RepL.mono (e : Sx F ρ H F' ρ' H') : ∀ (ps : List PV) (vs : List V), RepL K F ρ H vs ps → RepL K F' ρ' H' vs ps
  | [], _, h => by cases h; exact .nil
  | p :: ps, _, h => by
    cases h with
    | cons a b => exact .cons (Rep.mono e p _ a) (RepL.mono e ps _ b)
end
theorem RepL.len : ∀ {ps : List PV} {vs : List V}, RepL K F ρ H vs ps → vs.length = ps.length
  | [], _, h => by cases h; rfl
  | p :: ps, _, h => by
    cases h with
    | cons a b => simp [RepL.len b]
theorem RepL.get : ∀ {ps : List PV} {vs : List V} {i : Nat} {v : V}, RepL K F ρ H vs ps → vs[i]? = some v → ∃ p, ps[i]? = some p ∧ Rep K F ρ H v p
  | [], _, i, v, h, e => by cases h; simp at e
  | p :: ps, _, 0, v, h, e => by
    cases h with
    | cons a b => simp at e; subst e; exact ⟨p, rfl, a⟩
  | p :: ps, _, i + 1, v, h, e => by
    cases h with
    | cons a b =>
      obtain ⟨q, h1, h2⟩ := RepL.get (i := i) b (by simpa using e)
      exact ⟨q, by simpa using h1, h2⟩
theorem RepL.get' : ∀ {ps : List PV} {vs : List V} {i : Nat} {p : PV}, RepL K F ρ H vs ps → ps[i]? = some p → ∃ v, vs[i]? = some v ∧ Rep K F ρ H v p
  | [], _, i, v, h, e => by cases h; simp at e
  | p :: ps, _, 0, v, h, e => by
    cases h with
    | cons a b => simp at e; subst e; exact ⟨_, rfl, a⟩
  | p :: ps, _, i + 1, v, h, e => by
    cases h with
    | cons a b =>
      obtain ⟨q, h1, h2⟩ := RepL.get' (i := i) b (by simpa using e)
      exact ⟨q, by simpa using h1, h2⟩
theorem RepL.app : ∀ {ps qs : List PV} {vs ws : List V}, RepL K F ρ H vs ps → RepL K F ρ H ws qs → RepL K F ρ H (vs ++ ws) (ps ++ qs)
  | [], _, _, _, h, h2 => by cases h; exact h2
  | p :: ps, _, _, _, h, h2 => by
    cases h with
    | cons a b => exact .cons a (RepL.app b h2)
theorem RepL.take : ∀ {ps : List PV} {vs : List V} (n : Nat), RepL K F ρ H vs ps → RepL K F ρ H (vs.take n) (ps.take n)
  | _, _, 0, _ => .nil
  | [], _, _ + 1, h => by cases h; exact .nil
  | p :: ps, _, n + 1, h => by
    cases h with
    | cons a b => exact .cons a (RepL.take n b)
theorem RepL.drop : ∀ {ps : List PV} {vs : List V} (n : Nat), RepL K F ρ H vs ps → RepL K F ρ H (vs.drop n) (ps.drop n)
  | _, _, 0, h => h
  | [], _, _ + 1, h => by cases h; exact .nil
  | p :: ps, _, n + 1, h => by
    cases h with
    | cons a b => exact RepL.drop n b
theorem RepL.set : ∀ {ps : List PV} {vs : List V} (n : Nat) {v : V} {p : PV}, RepL K F ρ H vs ps → Rep K F ρ H v p → RepL K F ρ H (vs.set n v) (ps.set n p)
  | [], _, _, _, _, h, _ => by cases h; exact .nil
  | q :: ps, _, 0, _, _, h, r => by
    cases h with
    | cons a b => exact .cons r b
  | q :: ps, _, n + 1, _, _, h, r => by
    cases h with
    | cons a b => exact .cons a (RepL.set n b r)
theorem RepL.flat : ∀ {ps : List PV} {vs : List V} (n : Nat), RepL K F ρ H vs ps → RepL K F ρ H (List.replicate n vs).flatten (List.replicate n ps).flatten
  | _, _, 0, _ => .nil
  | _, _, n + 1, h => by
    rw [List.replicate_succ, List.replicate_succ, List.flatten_cons, List.flatten_cons]
    exact RepL.app h (RepL.flat n h)
theorem RepL.rev : ∀ {ps : List PV} {vs : List V}, RepL K F ρ H vs ps → RepL K F ρ H vs.reverse ps.reverse
  | [], _, h => by cases h; exact .nil
  | p :: ps, _, h => by
    cases h with
    | cons a b =>
      rw [List.reverse_cons, List.reverse_cons]
      exact RepL.app (RepL.rev b) (.cons a .nil)

/-- a value as an operand: a list's own address need not be one of the fixed ones -/
def Vw (K : PySem.W.Frag) (F : Addr → Prop) (ρ : List Addr) (H : Hp) (v : V) : PV → Prop
  | .lst ps => ∃ a vs, v = .ref a ∧ a ∉ ρ ∧ H a = some (.lst vs) ∧ RepL K F ρ H vs ps
  | .dct kvs => ∃ a, v = .ref a ∧ a ∉ ρ ∧ Rd H a (.dT (kvs.map fD)) ∧ dOk kvs = true
  | p => Rep K F ρ H v p
theorem Rep.vw {v : V} {p : PV} (h : Rep K F ρ H v p) (dis : ∀ a ∈ ρ, ¬ F a) : Vw K F ρ H v p := by
  cases p with
  | lst ps =>
    cases h with
    | lst f s r => exact ⟨_, _, rfl, fun m => dis _ m f, s, r⟩
  | dct kvs =>
    cases h with
    | dct f s o => exact ⟨_, rfl, fun m => dis _ m f, s, o⟩
  | _ => exact h
theorem Vw.mono {v : V} {p : PV} (e : Ext F ρ H F' ρ' H') (dis : ∀ a ∈ ρ, ¬ F a) (h : Vw K F ρ H v p) : Vw K F' ρ' H' v p := by
  cases p with
  | lst ps =>
    obtain ⟨a, vs, rfl, n, s, r⟩ := h
    refine ⟨a, vs, rfl, fun m => ?_, e.keep a _ s n, RepL.mono (e.sx dis) ps vs r⟩
    rcases e.celn a m with z | z
    · exact n z
    · rw [s] at z; cases z
  | dct kvs =>
    obtain ⟨a, rfl, n, s, o⟩ := h
    refine ⟨a, rfl, fun m => ?_, rd_keep (fun o q => e.keep a o q n) s, o⟩
    rcases e.celn a m with z | z
    · exact n z
    · rcases s with s | ⟨_, s⟩ <;> (rw [s] at z; cases z)
  | _ => exact Rep.mono (e.sx dis) _ _ h
end

/-! ### the slots, the cells -/
def CelRep (K : PySem.W.Frag) (F : Addr → Prop) (ρ : List Addr) (H : Hp) (a : Addr) : PV → Prop
  | .lst ps => ∃ vs, H a = some (.lst vs) ∧ RepL K F ρ H vs ps
  | .dct kvs => H a = some (.dT (kvs.map fD)) ∧ dOk kvs = true
  | _ => False
structure StoOk (K : PySem.W.Frag) (F : Addr → Prop) (ρ : List Addr) (H : Hp) (st : Sto) : Prop where
  len : ρ.length = st.length
  nd : ρ.Nodup
  dis : ∀ a ∈ ρ, ¬ F a
  trk : ∀ a, F a → ∃ o, H a = some o
  at_ : ∀ (k : Nat) (a : Addr) (p : PV), ρ[k]? = some a → st[k]? = some p → CelRep K F ρ H a p
structure EnvOk (K : PySem.W.Frag) (F : Addr → Prop) (ρ : List Addr) (H : Hp) (env : En) (σ : L2.St) : Prop where
  len : env.length = σ.length
  val : ∀ (i : Nat) (p : PV), look env i = .val p → ∃ v, σ[i]? = some (some v) ∧ Rep K F ρ H v p
  own : ∀ (i : Nat) (p : PV), look env i = .own p → ∃ a, σ[i]? = some (some (.ref a)) ∧ ¬ F a ∧ a ∉ ρ ∧ CelRep K F ρ H a p
  dif : ∀ (i j : Nat) (p q : PV) (a : Addr), look env i = .own p → look env j = .own q → σ[i]? = some (some (.ref a)) → σ[j]? = some (some (.ref a)) → i = j
section
variable {K : PySem.W.Frag} {F F' F'' : Addr → Prop} {ρ ρ' ρ'' : List Addr} {H H' H'' : Hp} {st : Sto} {env : En} {σ : L2.St}
theorem CelRep.there {a : Addr} {p : PV} (h : CelRep K F ρ H a p) : ∃ o, H a = some o := by
  cases p with
  | lst ps => obtain ⟨vs, e, _⟩ := h; exact ⟨_, e⟩
  | dct kvs => exact ⟨_, h.1⟩
  | _ => exact h.elim
theorem CelRep.ntup {a : Addr} {p : PV} {vs : List V} (h : CelRep K F ρ H a p) (e : H a = some (.tup vs)) : False := by
  cases p with
  | lst ps => obtain ⟨vs, e2, _⟩ := h; rw [e] at e2; cases e2
  | dct kvs => have := h.1; rw [e] at this; cases this
  | _ => exact h.elim
theorem CelRep.mono {a : Addr} {p : PV} (e : Sx F ρ H F' ρ' H') (k : ∀ o, H a = some o → H' a = some o) (h : CelRep K F ρ H a p) : CelRep K F' ρ' H' a p := by
  cases p with
  | lst ps => obtain ⟨vs, q, r⟩ := h; exact ⟨vs, k _ q, RepL.mono e ps vs r⟩
  | dct kvs => exact ⟨k _ h.1, h.2⟩
  | _ => exact h.elim
theorem StoOk.there (s : StoOk K F ρ H st) {a : Addr} (h : a ∈ ρ) : ∃ o, H a = some o := by
  obtain ⟨k, hk, e⟩ := List.getElem_of_mem h
  have e1 : ρ[k]? = some a := by rw [List.getElem?_eq_getElem hk, e]
  have hk2 : k < st.length := by rw [← s.len]; exact hk
  exact (s.at_ k a st[k] e1 (List.getElem?_eq_getElem hk2)).there
theorem StoOk.nin (s : StoOk K F ρ H st) {a : Addr} (h : H a = none) : a ∉ ρ := fun m => by
  obtain ⟨o, e⟩ := s.there m
  rw [h] at e; cases e
theorem EnvOk.mono (h : EnvOk K F ρ H env σ) (e : Ext F ρ H F' ρ' H') (dis : ∀ a ∈ ρ, ¬ F a) : EnvOk K F' ρ' H' env σ := by
  refine ⟨h.len, fun i p q => ?_, fun i p q => ?_, h.dif⟩
  · obtain ⟨v, e1, r⟩ := h.val i p q
    exact ⟨v, e1, Rep.mono (e.sx dis) p v r⟩
  · obtain ⟨a, e1, nf, nr, c⟩ := h.own i p q
    obtain ⟨o, ho⟩ := c.there
    refine ⟨a, e1, fun z => ?_, fun z => ?_, c.mono (e.sx dis) fun o q => e.keep a o q nr⟩
    · rcases e.new a z with z | z | ⟨_, vs, z⟩
      · exact nf z
      · rw [ho] at z; cases z
      · exact c.ntup z
    · rcases e.celn a z with z | z
      · exact nr z
      · rw [ho] at z; cases z
/-- a new object is laid -/
theorem Ext.lay {a : Addr} {o : HO} (n : H a = none) : Ext F ρ H F ρ (upd H a o) :=
  ⟨fun _ h => h, fun _ h => .inl h, fun b u h _ => by rw [upd_ne (ne_of_none h n)]; exact h, fun b h => by
    by_cases hb : b = a
    · rw [hb]; exact n
    · rw [upd_ne hb] at h; exact h, fun _ _ h => h, fun _ h => .inl h⟩
theorem Ext.layF {a : Addr} {o : HO} (n : H a = none) : Ext F ρ H (fun b => F b ∨ b = a) ρ (upd H a o) :=
  ⟨fun _ h => .inl h, fun b h => h.elim .inl fun e => .inr (.inl (by rw [e]; exact n)), fun b u h _ => by rw [upd_ne (ne_of_none h n)]; exact h, fun b h => by
    by_cases hb : b = a
    · rw [hb]; exact n
    · rw [upd_ne hb] at h; exact h, fun _ _ h => h, fun _ h => .inl h⟩
theorem StoOk.mono (s : StoOk K F ρ H st) (e : Ext F ρ H F' ρ H') (t : ∀ a, F' a → ∃ o, H' a = some o) (k : ∀ a ∈ ρ, ∀ o, H a = some o → H' a = some o) : StoOk K F' ρ H' st := by
  refine ⟨s.len, s.nd, fun a m f => ?_, t, fun i a p h1 h2 => ?_⟩
  · rcases e.new a f with z | z | ⟨z, _⟩
    · exact s.dis a m z
    · obtain ⟨o, ho⟩ := s.there m
      rw [ho] at z; cases z
    · exact z m
  · exact (s.at_ i a p h1 h2).mono (e.sx s.dis) (k a (List.mem_of_getElem? h1))
theorem StoOk.lay {a : Addr} {o : HO} (s : StoOk K F ρ H st) (n : H a = none) : StoOk K F ρ (upd H a o) st :=
  s.mono (Ext.lay n) (fun b f => by
    obtain ⟨u, h⟩ := s.trk b f
    exact ⟨u, by rw [upd_ne (ne_of_none h n)]; exact h⟩) fun b _ u h => by rw [upd_ne (ne_of_none h n)]; exact h
theorem StoOk.nf (s : StoOk K F ρ H st) {a : Addr} (n : H a = none) : ¬ F a := fun f => by
  obtain ⟨u, h⟩ := s.trk a f
  rw [n] at h; cases h
theorem StoOk.layF {a : Addr} {o : HO} (s : StoOk K F ρ H st) (n : H a = none) : StoOk K (fun b => F b ∨ b = a) ρ (upd H a o) st :=
  s.mono (Ext.layF n) (fun b f => by
    rcases f with f | f
    · obtain ⟨u, h⟩ := s.trk b f
      exact ⟨u, by rw [upd_ne (ne_of_none h n)]; exact h⟩
    · rw [f]; exact ⟨_, upd_same⟩) fun b _ u h => by rw [upd_ne (ne_of_none h n)]; exact h
theorem RepL.layF {a : Addr} {o : HO} {vs : List V} {ps : List PV} (r : RepL K F ρ H vs ps) (s : StoOk K F ρ H st) (n : H a = none) : RepL K (fun b => F b ∨ b = a) ρ (upd H a o) vs ps :=
  RepL.mono ((Ext.layF n).sx s.dis) ps vs r
theorem RepL.lay {a : Addr} {o : HO} {vs : List V} {ps : List PV} (r : RepL K F ρ H vs ps) (s : StoOk K F ρ H st) (n : H a = none) : RepL K F ρ (upd H a o) vs ps :=
  RepL.mono ((Ext.lay n).sx s.dis) ps vs r
end

/-! ### kinds of expressions -/
inductive Kd where | pl | fr | ow | fd
  deriving DecidableEq
def E.kind : E → Kd
  | .own _ => .ow
  | .lst _ => .fr
  | .comp _ _ _ _ _ => .fr
  | .rg1 false _ => .fr
  | .rg2 false _ _ => .fr
  | .rev _ => .fr
  | .rpl _ _ => .fr
  | .compD _ _ _ _ _ => .fr
  | .lof _ => .fr
  | .dnew => .fd
  | .dlit _ _ => .fd
  | .comp2 _ _ _ _ _ _ _ _ _ => .fr
  | _ => .pl
def Res (K : PySem.W.Frag) (H0 : Hp) (F : Addr → Prop) (ρ : List Addr) (H : Hp) (v : V) (p : PV) : Kd → Prop
  | .pl => Rep K F ρ H v p
  | .fr => Vw K F ρ H v p ∧ ∃ a ps, v = .ref a ∧ p = .lst ps ∧ H0 a = none ∧ ¬ F a ∧ a ∉ ρ
  | .ow => Vw K F ρ H v p
  | .fd => ∃ a kvs, v = .ref a ∧ p = .dct kvs ∧ a ∉ ρ ∧ H a = some (.dT (kvs.map fD)) ∧ dOk kvs = true ∧ H0 a = none ∧ ¬ F a
section
variable {K : PySem.W.Frag} {F F' F'' : Addr → Prop} {ρ ρ' ρ'' : List Addr} {H H' H'' : Hp} {st : Sto} {env : En} {σ : L2.St} {v : V} {p : PV} {kd : Kd}
theorem Res.vw (h : Res K H F' ρ' H' v p kd) (dis : ∀ a ∈ ρ', ¬ F' a) : Vw K F' ρ' H' v p := by
  cases kd with
  | pl => exact Rep.vw h dis
  | fr => exact h.1
  | ow => exact h
  | fd =>
    obtain ⟨a, kvs, rfl, rfl, n, s, o, _, _⟩ := h
    exact ⟨a, rfl, n, .inl s, o⟩
/-- a value that may be kept -/
theorem Res.esc (h : Res K H F' ρ' H' v p kd) (nk : kd ≠ .ow) (e : Ext F ρ H F' ρ' H') (s : StoOk K F' ρ' H' st) : ∃ F'', Ext F ρ H F'' ρ' H' ∧ StoOk K F'' ρ' H' st ∧ Rep K F'' ρ' H' v p ∧ ∀ a, F' a → F'' a := by
  cases kd with
  | pl => exact ⟨F', e, s, h, fun _ z => z⟩
  | ow => exact absurd rfl nk
  | fr =>
    obtain ⟨w, a, ps, rfl, rfl, n, nf, nr⟩ := h
    obtain ⟨b, vs, eb, _, hb, r⟩ := w
    cases eb
    have sx : Sx F' ρ' H' (fun b => F' b ∨ b = a) ρ' H' := ⟨fun _ z => .inl z, fun _ _ _ z => z, fun _ _ z => z⟩
    refine ⟨fun b => F' b ∨ b = a, ⟨fun _ z => .inl (e.sub _ z), fun b z => z.elim (e.new b) fun q => .inr (.inl (by rw [q]; exact n)), e.keep, e.track, e.cel, e.celn⟩, ⟨s.len, s.nd, fun b m z => z.elim (s.dis b m) fun q => nr (q ▸ m), fun b z => z.elim (s.trk b) fun q => ⟨.lst vs, by rw [q]; exact hb⟩, fun i b p h1 h2 => (s.at_ i b p h1 h2).mono sx fun _ z => z⟩,
      .lst (.inr rfl) hb (RepL.mono sx ps vs r), fun _ z => .inl z⟩
  | fd =>
    obtain ⟨a, kvs, rfl, rfl, nr, hb, o, n, nf⟩ := h
    refine ⟨fun b => F' b ∨ b = a, ⟨fun _ z => .inl (e.sub _ z), fun b z => z.elim (e.new b) fun q => .inr (.inl (by rw [q]; exact n)), e.keep, e.track, e.cel, e.celn⟩,
      ⟨s.len, s.nd, fun b m z => z.elim (s.dis b m) fun q => nr (q ▸ m), fun b z => z.elim (s.trk b) fun q => ⟨.dT (kvs.map fD), by rw [q]; exact hb⟩, fun k b p h1 h2 => (s.at_ k b p h1 h2).mono ⟨fun _ z => .inl z, fun _ _ _ z => z, fun _ _ z => z⟩ fun _ z => z⟩,
      .dct (.inr rfl) (.inl hb) o, fun _ z => .inl z⟩
end

/-! ### what is wanted behind an expression -/
/-- an exception's value: its class by name -/
def ExcRep (K : PySem.W.Frag) (cls : Value) (d : Option Addr) (H : Hp) : PV → Prop
  | .exc c [] => cls = .ref (He.ga K c) ∧ d = none
  | _ => False
def PostG {α : Type} (K : PySem.W.Frag) (W : WX) (F : Addr → Prop) (ρ : List Addr) (H : Hp) (σ : L2.St) (G : (Addr → Prop) → List Addr → Hp → α → Prop) : Out α → Prop
  | .ok a st' => ∀ F' ρ' H', Ext F ρ H F' ρ' H' → StoOk K F' ρ' H' st' → G F' ρ' H' a
  | .exn x st' => ∀ cls d H' F' ρ', Ext F ρ H F' ρ' H' → StoOk K F' ρ' H' st' → ExcRep K cls d H' x → W cls d σ H'
  | .bad => False
section
variable {α β : Type} {K : PySem.W.Frag} {W : WX} {F F' F1 : Addr → Prop} {ρ ρ' ρ1 : List Addr} {H H' H1 : Hp} {st : Sto} {env : En} {σ : L2.St}
theorem PostG.mono {G G' : (Addr → Prop) → List Addr → Hp → α → Prop} {o : Out α} (e : Ext F ρ H F1 ρ1 H1) (h : PostG K W F ρ H σ G o) (g : ∀ F' ρ' H' a, Ext F1 ρ1 H1 F' ρ' H' → G F' ρ' H' a → G' F' ρ' H' a) : PostG K W F1 ρ1 H1 σ G' o := by
  cases o with
  | ok a st => exact fun F' ρ' H' e' s => g _ _ _ _ e' (h F' ρ' H' (e.trans e') s)
  | exn x st => exact fun c d H' F' ρ' e' s r => h c d H' F' ρ' (e.trans e') s r
  | bad => exact h
theorem PostG.bnd {m : M α} {f : α → M β} {G : (Addr → Prop) → List Addr → Hp → β → Prop} {G1 : (Addr → Prop) → List Addr → Hp → α → Prop} (h : PostG K W F ρ H σ G (M.bnd m f st))
    (g : ∀ a st1 F1 ρ1 H1, Ext F ρ H F1 ρ1 H1 → StoOk K F1 ρ1 H1 st1 → PostG K W F1 ρ1 H1 σ G (f a st1) → G1 F1 ρ1 H1 a) : PostG K W F ρ H σ G1 (m st) := by
  unfold M.bnd at h
  cases e : m st with
  | ok a st1 =>
    rw [e] at h
    exact fun F' ρ' H' e' s => g a st1 F' ρ' H' e' s (PostG.mono e' h fun _ _ _ _ _ z => z)
  | exn x st1 =>
    rw [e] at h
    exact h
  | bad =>
    rw [e] at h
    exact h
theorem PostG.opt {o : Option α} {G : (Addr → Prop) → List Addr → Hp → α → Prop} (h : PostG K W F ρ H σ G (M.opt o st)) : ∃ a, o = some a ∧ ∀ F' ρ' H', Ext F ρ H F' ρ' H' → StoOk K F' ρ' H' st → G F' ρ' H' a := by
  cases o with
  | none => exact h.elim
  | some a => exact ⟨a, rfl, h⟩
end
/-- what is wanted of a value -/
def GV (K : PySem.W.Frag) (kd : Kd) (H : Hp) (Q : VK) : (Addr → Prop) → List Addr → Hp → PV → Prop := fun F' ρ' H' p => ∀ v, Res K H F' ρ' H' v p kd → Q v H'
end Pv

/-! P3: the operations. -/
namespace Pv
open PySem PySem.Spec PyProof.Rows L2

/-! ### plain data -/
mutual
def toD : PV → PyData
  | .bl b => .bool b
  | .int i => .int i
  | .str x => .str x
  | .tup xs => .tuple (toDs xs)
  | .lst xs => .list (toDs xs)
  | _ => .none
def toDs : List PV → List PyData
  | [] => []
  | x :: xs => toD x :: toDs xs
end
mutual
theorem okD_lay : ∀ (n : Nat) (p : PV), okD n p = true → (toD p).canLay0 = true ∧ (toD p).depth ≤ n
  | _, .non, _ => ⟨rfl, Nat.zero_le _⟩
  | _, .bl _, _ => ⟨rfl, Nat.zero_le _⟩
  | _, .int _, _ => ⟨rfl, Nat.zero_le _⟩
  | _, .str x, h => ⟨by simpa [okD, toD, PyData.canLay0] using h, Nat.zero_le _⟩
  | n + 1, .tup xs, h => by
    have h1 := okDs_lay n xs (by simpa [okD] using h)
    exact ⟨by simpa [toD, PyData.canLay0] using h1.1, by simp [toD, PyData.depth]; exact h1.2⟩
  | n + 1, .lst xs, h => by
    have h1 := okDs_lay n xs (by simpa [okD] using h)
    exact ⟨by simpa [toD, PyData.canLay0] using h1.1, by simp [toD, PyData.depth]; exact h1.2⟩
  | 0, .tup _, h => by simp [okD] at h
  | 0, .lst _, h => by simp [okD] at h
  | _, .dct _, h => by simp [okD] at h
  | _, .set _, h => by simp [okD] at h
  | _, .cel _, h => by simp [okD] at h
  | _, .scr _, h => by simp [okD] at h
  | _, .exc _ _, h => by simp [okD] at h
  | _, .glb _, h => by simp [okD] at h
theorem okDs_lay : ∀ (n : Nat) (ps : List PV), okDs n ps = true → PyData.canLayAll0 (toDs ps) = true ∧ PyData.depthAll (toDs ps) ≤ n
  | _, [], _ => ⟨rfl, Nat.zero_le _⟩
  | n, p :: ps, h => by
    rw [okDs, Bool.and_eq_true] at h
    have h1 := okD_lay n p h.1
    have h2 := okDs_lay n ps h.2
    exact ⟨by rw [toDs, PyData.canLayAll0, h1.1, h2.1]; rfl, by rw [toDs, PyData.depthAll]; omega⟩
end
theorem okD_shaped {p : PV} (h : okD 30 p = true) : SeqAt.shaped (toD p) = true := by
  obtain ⟨h1, h2⟩ := okD_lay 30 p h
  unfold SeqAt.shaped
  rw [h1, decide_eq_true (by omega)]
  rfl
mutual
theorem eqv_eq : ∀ (n m : Nat) (p q : PV), okD n p = true → okD m q = true → PyData.eqv (toD p) (toD q) = eqB p q
  | n, m, p, q, hp, hq => by
    cases p with
    | tup xs =>
      cases n with
      | zero => simp [okD] at hp
      | succ n =>
        cases q with
        | tup ys =>
          cases m with
          | zero => simp [okD] at hq
          | succ m => simpa [toD, eqB, PyData.eqv] using eqvs_eq n m xs ys (by simpa [okD] using hp) (by simpa [okD] using hq)
        | _ => first | rfl | (simp [okD] at hq; done) | simp [toD, eqB, PyData.eqv]
    | lst xs =>
      cases n with
      | zero => simp [okD] at hp
      | succ n =>
        cases q with
        | lst ys =>
          cases m with
          | zero => simp [okD] at hq
          | succ m => simpa [toD, eqB, PyData.eqv] using eqvs_eq n m xs ys (by simpa [okD] using hp) (by simpa [okD] using hq)
        | _ => first | rfl | (simp [okD] at hq; done) | simp [toD, eqB, PyData.eqv]
    | _ => first | (simp [okD] at hp; done) | (cases q <;> first | rfl | (simp [okD] at hq; done) | simp [toD, eqB, PyData.eqv])
theorem eqvs_eq : ∀ (n m : Nat) (ps qs : List PV), okDs n ps = true → okDs m qs = true → PyData.eqvAll (toDs ps) (toDs qs) = eqBs ps qs
  | _, _, [], [], _, _ => rfl
  | _, _, [], _ :: _, _, _ => rfl
  | _, _, _ :: _, [], _, _ => rfl
  | n, m, p :: ps, q :: qs, hp, hq => by
    rw [okDs, Bool.and_eq_true] at hp hq
    rw [toDs, toDs, PyData.eqvAll, eqBs, eqv_eq n m p q hp.1 hq.1, eqvs_eq n m ps qs hp.2 hq.2]
end
section
variable {K : PySem.W.Frag} {F : Addr → Prop} {ρ : List Addr} {H : Hp}
mutual
theorem Rep.dp : ∀ (n : Nat) (p : PV) (v : V), okD n p = true → Rep K F ρ H v p → Dp K H v (toD p)
  | _, .non, _, _, h => by cases h; exact .non
  | _, .bl _, _, _, h => by cases h; exact .bl _
  | _, .int _, _, _, h => by cases h; exact .int _
  | _, .str _, _, _, h => by cases h; exact .str _
  | n + 1, .tup ps, _, o, h => by
    cases h with
    | tup f s r => exact .tup (.inl (.inl s)) (RepL.dp n ps _ (by simpa [okD] using o) r)
  | n + 1, .lst ps, _, o, h => by
    cases h with
    | lst f s r => exact .lst (SqL.of s) (RepL.dp n ps _ (by simpa [okD] using o) r)
  | 0, .tup _, _, o, _ => by simp [okD] at o
  | 0, .lst _, _, o, _ => by simp [okD] at o
  | _, .dct _, _, o, _ => by simp [okD] at o
  | _, .set _, _, o, _ => by simp [okD] at o
  | _, .cel _, _, o, _ => by simp [okD] at o
  | _, .scr _, _, o, _ => by simp [okD] at o
  | _, .exc _ _, _, o, _ => by simp [okD] at o
  | _, .glb _, _, o, _ => by simp [okD] at o
theorem RepL.dp : ∀ (n : Nat) (ps : List PV) (vs : List V), okDs n ps = true → RepL K F ρ H vs ps → DpAll K H vs (toDs ps)
  | _, [], _, _, h => by cases h; exact .nil
  | n, p :: ps, _, o, h => by
    rw [okDs, Bool.and_eq_true] at o
    cases h with
    | cons a b => exact .cons (Rep.dp n p _ o.1 a) (RepL.dp n ps _ o.2 b)
end
theorem Vw.dp {n : Nat} {p : PV} {v : V} (o : okD n p = true) (h : Vw K F ρ H v p) : Dp K H v (toD p) := by
  cases p with
  | lst ps =>
    obtain ⟨a, vs, rfl, _, s, r⟩ := h
    cases n with
    | zero => simp [okD] at o
    | succ n => exact .lst (SqL.of s) (RepL.dp n ps _ (by simpa [okD] using o) r)
  | dct _ => simp [okD] at o
  | _ => exact Rep.dp n _ v o h
end

/-! ### what a result asks -/
/-- the value r, at hand, gives Q -/
def Giv (K : PySem.W.Frag) (F : Addr → Prop) (ρ : List Addr) (H : Hp) (st : Sto) (Q : VK) (r : PV) : Prop :=
  ∀ F' ρ' H', Ext F ρ H F' ρ' H' → StoOk K F' ρ' H' st → ∀ v, Rep K F' ρ' H' v r → Q v H'
section
variable {K : PySem.W.Frag} {F : Addr → Prop} {ρ : List Addr} {H : Hp} {st : Sto} {Q : VK} {r : PV}
theorem Giv.here (g : Giv K F ρ H st Q r) (s : StoOk K F ρ H st) {v : V} (h : Rep K F ρ H v r) : Q v H := g _ _ _ Ext.refl s v h
theorem Giv.tup {ps : List PV} {vs : List V} (g : Giv K F ρ H st Q (.tup ps)) (s : StoOk K F ρ H st) (h : RepL K F ρ H vs ps) : ∀ a, H a = none → Q (.ref a) (upd H a (.tup vs)) := fun a n =>
  g _ _ _ (Ext.layF n) (s.layF n) _ (.tup (.inr rfl) upd_same (h.layF s n))
theorem Giv.lst {ps : List PV} {vs : List V} (g : Giv K F ρ H st Q (.lst ps)) (s : StoOk K F ρ H st) (h : RepL K F ρ H vs ps) : ∀ a, H a = none → Q (.ref a) (upd H a (.lst vs)) := fun a n =>
  g _ _ _ (Ext.layF n) (s.layF n) _ (.lst (.inr rfl) upd_same (h.layF s n))
end
theorem lim_line : (1000000 : Nat) ≤ sizeLine := by rw [sizeLine_eq]; decide

/-! ### two operands -/
def rB (K : PySem.W.Frag) (f : PV → PV → Option PV) : R2 := fun x y H Q => ∃ F ρ st p q r, StoOk K F ρ H st ∧ Vw K F ρ H x p ∧ Vw K F ρ H y q ∧ f p q = some r ∧ Giv K F ρ H st Q r
def opM : Op → Operator
  | .add => .Add | .sub => .Sub | .mul => .Mult | .fdiv => .FloorDiv | .mod => .Mod | .pow => .Pow
def copM : Cop → CmpOp
  | .eq => .Eq | .ne => .NotEq | .lt => .Lt | .le => .LtE | .gt => .Gt | .ge => .GtE | .isin => .In | .notin => .NotIn | .is_ => .Is | .isnot => .IsNot
section
variable {X : Cx}

theorem tup_mulS (l : Addr) (items : Array Value) (n : Nat) (dd : Option Addr) (sl : Array (Option Value)) (x : Int) (u : Tok) (c0 : (decide (x < -(2 ^ 63)) || decide (x ≥ 2 ^ 63)) = false) (c1 : (items.isEmpty || x == 1) = true) :
    Meets (Builtin.«tuple.__mul__» ⟨[.ref l, .int x u], []⟩) (fun _ R s => s.heap.get? l = some { cls := .type "tuple", dict := dd, data := .seq items n, slots := sl } ∧
      R (.ok (.ret (Value.ref l))) s) :=
  .of_wp fun prog w A R s h => by
    obtain ⟨hp, g, d, tk, os⟩ := s
    obtain ⟨hl, h⟩ := h
    have f1 := AutoSeq1.idx_int
    wp_walk using wpAny_loadPart' hl
    repeat (first
      | (refine wpAny_ite_false (decide_eq_false (by rw [c0]; exact Bool.false_ne_true)) ?_; wp_walk using wpAny_loadPart' hl)
      | (refine wpAny_ite_true (decide_eq_true c1) ?_; wp_walk using wpAny_loadPart' hl))
    exact ⟨_, rfl, h⟩
theorem tup_mulZ (l : Addr) (items : Array Value) (n : Nat) (dd : Option Addr) (sl : Array (Option Value)) (x : Int) (u : Tok) (c0 : (decide (x < -(2 ^ 63)) || decide (x ≥ 2 ^ 63)) = false) (c1 : (items.isEmpty || x == 1) = false) (c2 : (decide (x ≤ 0) || items.isEmpty) = true) :
    Meets (Builtin.«tuple.__mul__» ⟨[.ref l, .int x u], []⟩) (fun _ R s => s.heap.get? l = some { cls := .type "tuple", dict := dd, data := .seq items n, slots := sl } ∧
      R (.ok (.ret (Value.ref s.heap.objs.size))) { s with heap := s.heap.push { cls := Value.type "tuple", data := Data.seq #[] }, toks := s.toks }) :=
  .of_wp fun prog w A R s h => by
    obtain ⟨hp, g, d, tk, os⟩ := s
    obtain ⟨hl, h⟩ := h
    have f1 := AutoSeq1.idx_int
    wp_walk using wpAny_loadPart' hl
    repeat (first
      | (refine wpAny_ite_false (decide_eq_false (by rw [c0]; exact Bool.false_ne_true)) ?_; wp_walk using wpAny_loadPart' hl)
      | (refine wpAny_ite_false (decide_eq_false (by rw [c1]; exact Bool.false_ne_true)) ?_; wp_walk using wpAny_loadPart' hl)
      | (refine wpAny_ite_true (decide_eq_true c2) ?_; wp_walk using wpAny_loadPart' hl))
    exact ⟨_, rfl, h⟩
/-- t * k for a small k of any sign -/
theorem op_mulT {pins : List (Addr × Obj)} {s : Shared} {σ : L2.St} {H : Hp} {l : Addr} {k : Int} {xs : List V} {v u : Value} {Q : VK} (I : Inv X pins σ H s) (rx : RelV (.ref l) v) (ry : RelV (.int k) u)
    (hT : SqT X.K H l xs) (h0 : 0 ≤ k) (h1 : k ≤ 1000) (hz : xs.length ≤ 1000) (qs : (List.replicate k.toNat xs).flatten = xs → Q (.ref l) H) (qn : ∀ p, H p = none → Q (.ref p) (upd H p (.tup (List.replicate k.toNat xs).flatten))) :
    wpAny (model X.prog X.w) X.A (binaryOp .Mult v u) (EP X pins σ Q) X.xe s := by
  by_cases hbig : xs ≠ [] ∧ 2 ≤ k
  · exact op_repT pins s σ H _ _ v u Q I rx ry ⟨l, k, xs, rfl, rfl, hT, hbig.1, hbig.2, h1, hz, qn⟩
  cases rx
  obtain ⟨t, rfl⟩ := ry
  obtain ⟨its, r, ⟨⟨cls, dd, data, sl⟩, ho, hc, n, hd⟩, hs⟩ := I.tuple hT
  simp only at hc hd
  subst hc hd
  have c0 : (decide (k < -(2 ^ 63)) || decide (k ≥ 2 ^ 63)) = false := by
    rw [decide_eq_false (by omega), decide_eq_false (by omega)] <;> rfl
  by_cases c1 : (its.toArray.isEmpty || k == 1) = true
  · refine wpAny_binaryOp_repeat_ref (T := "tuple") (U := "int") (by decide) ⟨_, ho, rfl⟩ (fun s' => typeIs_int s' k t) noFill_tuple_mul F.fills_int_mul F.slot_int_rmul repeat_tuple F.slot_int_index.lookup
      (call_meets F.slot_int_rmul (typeIs_int s k t) F.entry_int_rmul (F.args_int_rmul_2 _ _) (int_rmul_tuple k t l its.toArray n dd sl)
        ⟨ho, rfl, ⟨_, ho, rfl⟩, call_meets F.slot_tuple_mul ⟨_, ho, rfl⟩ F.entry_tuple_mul (F.args_tuple_mul_2 _ _) (tup_mulS l its.toArray n dd sl k t c0 c1) ⟨ho, ?_⟩⟩)
    refine ⟨.ref l, H, I, rfl, qs ?_⟩
    rcases Bool.or_eq_true_iff.mp c1 with e | e
    · have e1 : xs = [] := by
        have := r.length
        cases its with
        | nil => simpa using this
        | cons a b => simp at e
      subst e1
      simp
    · have e1 : k = 1 := by simpa using e
      subst e1
      simp
  · have c1' : (its.toArray.isEmpty || k == 1) = false := by simpa using c1
    have hk : k = 0 := by
      have h2 : ¬ its.toArray.isEmpty = true ∧ ¬ (k == 1) = true := by
        constructor <;> (intro e; exact c1 (by simp [e]))
      have h3 : xs ≠ [] := by
        intro e; subst e
        cases r
        exact h2.1 rfl
      have h4 : k ≠ 1 := fun e => h2.2 (by simp [e])
      have h5 : ¬ 2 ≤ k := fun e => hbig ⟨h3, e⟩
      omega
    subst hk
    refine wpAny_binaryOp_repeat_ref (T := "tuple") (U := "int") (by decide) ⟨_, ho, rfl⟩ (fun s' => typeIs_int s' 0 t) noFill_tuple_mul F.fills_int_mul F.slot_int_rmul repeat_tuple F.slot_int_index.lookup
      (call_meets F.slot_int_rmul (typeIs_int s 0 t) F.entry_int_rmul (F.args_int_rmul_2 _ _) (int_rmul_tuple 0 t l its.toArray n dd sl)
        ⟨ho, rfl, ⟨_, ho, rfl⟩, call_meets F.slot_tuple_mul ⟨_, ho, rfl⟩ F.entry_tuple_mul (F.args_tuple_mul_2 _ _) (tup_mulZ l its.toArray n dd sl 0 t c0 c1' (by simp)) ⟨ho, ?_⟩⟩)
    refine ⟨.ref s.heap.objs.size, _, I.laid (t' := s.toks) (o := .tup []) (fun b ob q => Heap.get?_push_of_some _ q) (Nat.le_refl _) ?_, rfl, qn _ (I.hok.fresh (Nat.le_refl _))⟩
    exact ⟨Nat.zero_le _, _, .nil, IsTup.new _ _⟩

theorem small_of {i : Int} (h : smallB i = true) : -(2 ^ 64) < i ∧ i < 2 ^ 64 := by
  unfold smallB at h
  rw [Bool.and_eq_true] at h
  have h1 := of_decide_eq_true h.1
  have h2 := of_decide_eq_true h.2
  omega
theorem repLen (xs : List V) (n : Nat) (h1 : n ≤ 1000) (h2 : xs.length ≤ 1000) : xs.length * n ≤ sizeLine := by
  have : xs.length * n ≤ 1000 * 1000 := Nat.mul_le_mul h2 h1
  rw [sizeLine_eq]; omega

theorem op_bin (o : Op) : OpR X (binaryOp (opM o)) (rB X.K (binP o)) := by
  intro pins s σ H x y v u Q I rx ry h
  obtain ⟨F, ρ, st, p, q, r, sk, vp, vq, e, g⟩ := h
  have ll := lim_line
  cases o with
  | add =>
    cases p <;> cases q <;> simp only [binP] at e <;> try cases e
    · cases vp; cases vq
      exact op_add pins s σ H _ _ v u Q I rx ry ⟨_, _, rfl, rfl, g.here sk (.int _)⟩
    · rename_i xs ys
      split at e <;> cases e
      rename_i hl
      cases vp with
      | tup f1 s1 r1 =>
      cases vq with
      | tup f2 s2 r2 =>
      have l1 := r1.len
      have l2 := r2.len
      refine op_catA pins s σ H _ _ v u Q I rx ry ⟨_, _, _, _, rfl, rfl, .inl (.inl s1), .inl (.inl s2), by omega, fun e1 => ?_, fun _ e1 => ?_, fun _ _ => g.tup sk (r1.app r2)⟩
      · subst e1
        cases r1
        exact g.here sk (.tup f2 s2 r2)
      · subst e1
        cases r2
        exact g.here sk (.tup f1 s1 (by rw [List.append_nil]; exact r1))
    · rename_i xs ys
      split at e <;> cases e
      rename_i hl
      obtain ⟨a, vs, rfl, _, s1, r1⟩ := vp
      obtain ⟨b, ws, rfl, _, s2, r2⟩ := vq
      have l1 := r1.len
      have l2 := r2.len
      exact op_cat pins s σ H _ _ v u Q I rx ry ⟨_, _, _, _, rfl, rfl, s1, s2, by omega, g.lst sk (r1.app r2)⟩
  | sub =>
    cases p <;> cases q <;> simp only [binP] at e <;> try cases e
    cases vp; cases vq
    exact op_sub pins s σ H _ _ v u Q I rx ry ⟨_, _, rfl, rfl, g.here sk (.int _)⟩
  | mul =>
    cases p <;> cases q <;> simp only [binP] at e <;> try cases e
    · split at e <;> cases e
      rename_i hl
      cases vp; cases vq
      exact op_mul pins s σ H _ _ v u Q I rx ry ⟨_, _, rfl, rfl, (Bool.or_eq_true_iff.mp hl).elim (fun z => .inl (small_of z)) (fun z => .inr (small_of z)), g.here sk (.int _)⟩
    · split at e <;> cases e
      rename_i xs k hl
      cases vq
      cases vp with
      | tup f1 s1 r1 =>
      have l1 := r1.len
      refine op_mulT I rx ry (.inl (.inl s1)) hl.1 hl.2.1 (by omega) (fun e1 => g.here sk (.tup f1 s1 ?_)) (g.tup sk (r1.flat _))
      have q := r1.flat k.toNat
      rw [e1] at q
      exact q
    · split at e <;> cases e
      rename_i hl
      cases vq
      obtain ⟨a, vs, rfl, _, s1, r1⟩ := vp
      have l1 := r1.len
      exact op_rep pins s σ H _ _ v u Q I rx ry ⟨_, _, _, rfl, rfl, s1, by omega, by omega, repLen _ _ (by omega) (by omega), g.lst sk (r1.flat _)⟩
  | fdiv =>
    cases p <;> cases q <;> simp only [binP] at e <;> try cases e
    split at e <;> cases e
    rename_i hl
    cases vp; cases vq
    exact op_fdiv pins s σ H _ _ v u Q I rx ry ⟨_, _, rfl, rfl, ⟨hl.1, hl.2⟩, g.here sk (.int _)⟩
  | mod =>
    cases p <;> cases q <;> simp only [binP] at e <;> try cases e
    split at e <;> cases e
    rename_i hl
    cases vp; cases vq
    exact op_mod pins s σ H _ _ v u Q I rx ry ⟨_, _, rfl, rfl, hl, g.here sk (.int _)⟩
  | pow =>
    cases p <;> cases q <;> simp only [binP] at e <;> try cases e
    split at e <;> cases e
    rename_i hl
    cases vp; cases vq
    have := small_of hl.2.2
    exact op_pow pins s σ H _ _ v u Q I rx ry ⟨_, _, rfl, rfl, ⟨hl.1, by omega, by omega⟩, g.here sk (.int _)⟩

theorem op_neg : UnR X (unaryOp .USub) (fun x H Q => ∃ F ρ st p r, StoOk X.K F ρ H st ∧ Vw X.K F ρ H x p ∧ negP p = some r ∧ Giv X.K F ρ H st Q r) := by
  intro pins s σ H x v Q I rx h
  obtain ⟨F, ρ, st, p, r, sk, vp, e, g⟩ := h
  cases p <;> simp only [negP] at e <;> try cases e
  cases vp
  exact un_neg pins s σ H _ v Q I rx ⟨_, rfl, g.here sk (.int _)⟩

/-! ### the order of data -/
mutual
theorem alike_eq : ∀ p q : PV, alI p q = true → PySem.W.alike (toD p) (toD q) = true
  | .int _, q, h => by
    cases q <;> first | (simp [alI] at h; done) | simp [toD, PySem.W.alike]
  | .tup xs, q, h => by
    cases q with
    | tup ys =>
      simp only [toD, PySem.W.alike]
      exact alikes_eq xs ys (by simpa [alI] using h)
    | _ => simp [alI] at h
  | .non, q, h => by cases q <;> simp [alI] at h
  | .bl _, q, h => by cases q <;> simp [alI] at h
  | .str _, q, h => by cases q <;> simp [alI] at h
  | .lst _, q, h => by cases q <;> simp [alI] at h
  | .dct _, q, h => by cases q <;> simp [alI] at h
  | .set _, q, h => by cases q <;> simp [alI] at h
  | .cel _, q, h => by cases q <;> simp [alI] at h
  | .scr _, q, h => by cases q <;> simp [alI] at h
  | .exc _ _, q, h => by cases q <;> simp [alI] at h
  | .glb _, q, h => by cases q <;> simp [alI] at h
theorem alikes_eq : ∀ xs ys : List PV, alIs xs ys = true → PySem.W.alikeAll (toDs xs) (toDs ys) = true
  | [], _, _ => by simp [toDs, PySem.W.alikeAll]
  | _ :: _, [], _ => by simp [toDs, PySem.W.alikeAll]
  | x :: xs, y :: ys, h => by
    simp only [alIs, Bool.and_eq_true] at h
    simp only [toDs, PySem.W.alikeAll, alike_eq x y h.1, alikes_eq xs ys h.2, Bool.and_self]
end
mutual
theorem lt_eq : ∀ (n m : Nat) (p q : PV), okD n p = true → okD m q = true → alI p q = true → PySem.W.dataLt (toD p) (toD q) = ltB p q
  | n, m, .int i, q, hp, hq, h => by
    cases q <;> first | (simp [alI] at h; done) | simp [toD, ltB, PySem.W.dataLt_int]
  | n, m, .tup xs, q, hp, hq, h => by
    cases q with
    | tup ys =>
      cases n with
      | zero => simp [okD] at hp
      | succ n =>
        cases m with
        | zero => simp [okD] at hq
        | succ m =>
          simp only [toD, PySem.W.dataLt_tuple, ltB]
          exact lts_eq n m xs ys (by simpa [okD] using hp) (by simpa [okD] using hq) (by simpa [alI] using h)
    | _ => simp [alI] at h
  | _, _, .non, q, _, _, h => by cases q <;> simp [alI] at h
  | _, _, .bl _, q, _, _, h => by cases q <;> simp [alI] at h
  | _, _, .str _, q, _, _, h => by cases q <;> simp [alI] at h
  | _, _, .lst _, q, _, _, h => by cases q <;> simp [alI] at h
  | _, _, .dct _, q, _, _, h => by cases q <;> simp [alI] at h
  | _, _, .set _, q, _, _, h => by cases q <;> simp [alI] at h
  | _, _, .cel _, q, _, _, h => by cases q <;> simp [alI] at h
  | _, _, .scr _, q, _, _, h => by cases q <;> simp [alI] at h
  | _, _, .exc _ _, q, _, _, h => by cases q <;> simp [alI] at h
  | _, _, .glb _, q, _, _, h => by cases q <;> simp [alI] at h
theorem lts_eq : ∀ (n m : Nat) (xs ys : List PV), okDs n xs = true → okDs m ys = true → alIs xs ys = true → PyProof.Rows.lexLt itemOrd (PySem.W.keyToksAll (toDs xs)) (PySem.W.keyToksAll (toDs ys)) = ltBs xs ys
  | n, m, [], [], _, _, _ => by simp only [toDs, ltBs]; exact lex_irrefl _
  | n, m, [], y :: ys, _, _, _ => by
    simp only [toDs, ltBs]
    rw [PySem.W.toks_all_cons]
    simp only [PySem.W.keyToksAll]
    rw [lex_diff (O := itemOrd) (by simp)]
    rfl
  | n, m, x :: xs, [], _, _, _ => by
    simp only [toDs, ltBs]
    rw [PySem.W.toks_all_cons]
    simp only [PySem.W.keyToksAll]
    rw [lex_diff (O := itemOrd) (by simp)]
    rfl
  | n, m, x :: xs, y :: ys, hp, hq, h => by
    simp only [alIs, Bool.and_eq_true] at h
    simp only [okDs, Bool.and_eq_true] at hp hq
    simp only [toDs, ltBs]
    rw [PySem.W.dataLt_cons (alike_eq x y h.1), eqv_eq n m x y hp.1 hq.1, lts_eq n m xs ys hp.2 hq.2 h.2, lt_eq n m x y hp.1 hq.1 h.1]
end
theorem alI_nn {p q : PV} (h : alI p q = true) : toD p ≠ .none := by
  cases p <;> cases q <;> first | (simp [alI] at h; done) | simp [toD]
theorem ltT_some {p q : PV} {b : Bool} (h : ltT p q = some b) : okD 30 p = true ∧ okD 30 q = true ∧ alI p q = true ∧ b = ltB p q := by
  unfold ltT at h
  split at h
  · rename_i hc
    exact ⟨hc.1, hc.2.1, hc.2.2, (Option.some.inj h).symm⟩
  · cases h
theorem alI_comm : ∀ p q : PV, alI p q = true → alI q p = true := fun p q h => by
  have h1 : ∀ n : Nat, ∀ p q : PV, sizeOf p ≤ n → alI p q = true → alI q p = true := fun n => by
    induction n with
    | zero => intro p q hs; cases p <;> simp at hs
    | succ n ih =>
      intro p q hs h
      cases p with
      | int _ => cases q <;> first | (simp [alI] at h; done) | simp [alI]
      | tup xs =>
        cases q with
        | tup ys =>
          simp only [alI] at h ⊢
          have hs' : ∀ x ∈ xs, sizeOf x ≤ n := fun x hx => by
            have := List.sizeOf_lt_of_mem hx
            simp at hs
            omega
          clear hs
          induction xs generalizing ys with
          | nil => cases ys <;> simp [alIs]
          | cons x xs ih2 =>
            cases ys with
            | nil => simp [alIs]
            | cons y ys =>
              simp only [alIs, Bool.and_eq_true] at h ⊢
              exact ⟨ih x y (hs' x List.mem_cons_self) h.1, ih2 ys h.2 fun z hz => hs' z (List.mem_cons_of_mem _ hz)⟩
        | _ => simp [alI] at h
      | _ => simp [alI] at h
  exact h1 _ p q (Nat.le_refl _) h
theorem okDs_mem {n : Nat} : ∀ {xs : List PV}, okDs n xs = true → ∀ x ∈ xs, okD n x = true
  | [], _, x, hx => by simp at hx
  | y :: ys, h, x, hx => by
    simp only [okDs, Bool.and_eq_true] at h
    rcases List.mem_cons.mp hx with rfl | hx
    · exact h.1
    · exact okDs_mem h.2 x hx
theorem toDs_map : ∀ xs : List PV, toDs xs = xs.map toD
  | [] => rfl
  | x :: xs => by rw [toDs, List.map_cons, toDs_map xs]
theorem alAll_of {xs : List PV} (h : alAll xs = true) : okDs 29 xs = true ∧ ∀ x ∈ xs, ∀ y ∈ xs, alI x y = true := by
  unfold alAll at h
  simp only [Bool.and_eq_true, List.all_eq_true] at h
  exact h
theorem alikeAll_of {xs : List PV} (h : alAll xs = true) : PySem.W.AlikeAll (toDs xs) := by
  obtain ⟨h1, h2⟩ := alAll_of h
  rw [toDs_map]
  refine ⟨fun x hx y hy => ?_, fun x hx => ?_⟩
  · obtain ⟨p, hp, rfl⟩ := List.mem_map.mp hx
    obtain ⟨q, hq, rfl⟩ := List.mem_map.mp hy
    exact alike_eq p q (h2 p hp q hq)
  · obtain ⟨p, hp, rfl⟩ := List.mem_map.mp hx
    exact alI_nn (h2 p hp p hp)
theorem lt_of_al {xs : List PV} (h : alAll xs = true) : ∀ x ∈ xs, ∀ y ∈ xs, PySem.W.dataLt (toD x) (toD y) = ltB x y := fun x hx y hy => by
  obtain ⟨h1, h2⟩ := alAll_of h
  exact lt_eq 29 29 x y (okDs_mem h1 x hx) (okDs_mem h1 y hy) (h2 x hx y hy)
theorem minF_mem : ∀ (xs : List PV) (x : PV), minF x xs ∈ x :: xs
  | [], x => by simp [minF]
  | y :: ys, x => by
    have h : minF x (y :: ys) = minF (if ltB y x = true then y else x) ys := rfl
    rw [h]
    rcases List.mem_cons.mp (minF_mem ys (if ltB y x = true then y else x)) with e | e
    · rw [e]; split <;> simp
    · simp [e]
theorem maxF_mem : ∀ (xs : List PV) (x : PV), maxF x xs ∈ x :: xs
  | [], x => by simp [maxF]
  | y :: ys, x => by
    have h : maxF x (y :: ys) = maxF (if ltB x y = true then y else x) ys := rfl
    rw [h]
    rcases List.mem_cons.mp (maxF_mem ys (if ltB x y = true then y else x)) with e | e
    · rw [e]; split <;> simp
    · simp [e]

theorem each_vals : ∀ {vs : List V} {us : List Value} {ps : List PV}, Vals vs us → vs.length = ps.length → PySem.W.EachIs (fun (u : Value) (z : V × PV) => RelV z.1 u) us (vs.zip ps)
  | _, _, _, .nil, _ => by rw [List.zip_nil_left]; exact .nil
  | _, _, [], .cons _ _, h => by simp at h
  | _, _, p :: ps, .cons a b, h => by
    rw [List.zip_cons_cons]
    exact .cons a (each_vals b (by simpa using h))
theorem vals_each : ∀ {us : List Value} {zs : List (V × PV)}, PySem.W.EachIs (fun (u : Value) (z : V × PV) => RelV z.1 u) us zs → Vals (zs.map (·.1)) us
  | _, _, .nil => .nil
  | _, _, .cons a b => .cons a (vals_each b)
theorem repL_zip {K : PySem.W.Frag} {F : Addr → Prop} {ρ : List Addr} {H : Hp} : ∀ {vs : List V} {ps : List PV}, RepL K F ρ H vs ps → ∀ z ∈ vs.zip ps, Rep K F ρ H z.1 z.2
  | _, _, .nil, z, hz => by simp at hz
  | _, _, .cons a b, z, hz => by
    rw [List.zip_cons_cons] at hz
    rcases List.mem_cons.mp hz with rfl | hz
    · exact a
    · exact repL_zip b z hz
theorem zip_repL {K : PySem.W.Frag} {F : Addr → Prop} {ρ : List Addr} {H : Hp} : ∀ {zs : List (V × PV)}, (∀ z ∈ zs, Rep K F ρ H z.1 z.2) → RepL K F ρ H (zs.map (·.1)) (zs.map (·.2))
  | [], _ => .nil
  | z :: zs, h => .cons (h z List.mem_cons_self) (zip_repL fun y hy => h y (List.mem_cons_of_mem _ hy))
mutual
theorem toD_inj : ∀ p q : PV, alI p p = true → alI q q = true → toD p = toD q → p = q
  | .int i, q, _, hq, h => by
    cases q <;> first | (simp [alI] at hq; done) | (simp [toD] at h; done) | (simp [toD] at h; rw [h])
  | .tup xs, q, hp, hq, h => by
    cases q with
    | tup ys =>
      simp only [toD, PyData.tuple.injEq] at h
      rw [toDs_inj xs ys (by simpa [alI] using hp) (by simpa [alI] using hq) h]
    | int _ => simp [toD] at h
    | _ => simp [alI] at hq
  | .non, q, hp, _, _ => by simp [alI] at hp
  | .bl _, q, hp, _, _ => by simp [alI] at hp
  | .str _, q, hp, _, _ => by simp [alI] at hp
  | .lst _, q, hp, _, _ => by simp [alI] at hp
  | .dct _, q, hp, _, _ => by simp [alI] at hp
  | .set _, q, hp, _, _ => by simp [alI] at hp
  | .cel _, q, hp, _, _ => by simp [alI] at hp
  | .scr _, q, hp, _, _ => by simp [alI] at hp
  | .exc _ _, q, hp, _, _ => by simp [alI] at hp
  | .glb _, q, hp, _, _ => by simp [alI] at hp
theorem toDs_inj : ∀ xs ys : List PV, alIs xs xs = true → alIs ys ys = true → toDs xs = toDs ys → xs = ys
  | [], [], _, _, _ => rfl
  | [], _ :: _, _, _, h => by simp [toDs] at h
  | _ :: _, [], _, _, h => by simp [toDs] at h
  | x :: xs, y :: ys, hp, hq, h => by
    simp only [alIs, Bool.and_eq_true] at hp hq
    simp only [toDs, List.cons.injEq] at h
    rw [toD_inj x y hp.1 hq.1 h.1, toDs_inj xs ys hp.2 hq.2 h.2]
end
theorem minD_toD {x : PV} {xs : List PV} (h : alAll (x :: xs) = true) : PySem.W.minD (toD x) (toDs xs) = toD (minF x xs) := by
  have hl := lt_of_al h
  have key : ∀ (l : List PV) (y : PV), y ∈ x :: xs → (∀ z ∈ l, z ∈ x :: xs) → PySem.W.minD (toD y) (toDs l) = toD (minF y l) := fun l => by
    induction l with
    | nil => intro y _ _; rfl
    | cons a l ih =>
      intro y hy hz
      have ha := hz a List.mem_cons_self
      have h1 : PySem.W.minD (toD y) (toDs (a :: l)) = PySem.W.minD (if PySem.W.dataLt (toD a) (toD y) = true then toD a else toD y) (toDs l) := rfl
      have h2 : minF y (a :: l) = minF (if ltB a y = true then a else y) l := rfl
      rw [h1, h2, hl a ha y hy, ← apply_ite toD]
      exact ih _ (by split <;> assumption) fun z hm => hz z (List.mem_cons_of_mem _ hm)
  exact key xs x List.mem_cons_self fun z hm => List.mem_cons_of_mem _ hm
theorem maxD_toD {x : PV} {xs : List PV} (h : alAll (x :: xs) = true) : PySem.W.maxD (toD x) (toDs xs) = toD (maxF x xs) := by
  have hl := lt_of_al h
  have key : ∀ (l : List PV) (y : PV), y ∈ x :: xs → (∀ z ∈ l, z ∈ x :: xs) → PySem.W.maxD (toD y) (toDs l) = toD (maxF y l) := fun l => by
    induction l with
    | nil => intro y _ _; rfl
    | cons a l ih =>
      intro y hy hz
      have ha := hz a List.mem_cons_self
      have h1 : PySem.W.maxD (toD y) (toDs (a :: l)) = PySem.W.maxD (if PySem.W.dataLt (toD y) (toD a) = true then toD a else toD y) (toDs l) := rfl
      have h2 : maxF y (a :: l) = maxF (if ltB y a = true then a else y) l := rfl
      rw [h1, h2, hl y hy a ha, ← apply_ite toD]
      exact ih _ (by split <;> assumption) fun z hm => hz z (List.mem_cons_of_mem _ hm)
  exact key xs x List.mem_cons_self fun z hm => List.mem_cons_of_mem _ hm

theorem op_inT {X : Cx} (hu : X.A.units + 65 < cLine) : OpR X (compareOp .In) (fun x y H Q => ∃ d ds, Dp X.K H x d ∧ Dp X.K H y (.tuple ds) ∧ SeqAt.shaped d = true ∧ SeqAt.shaped (.tuple ds) = true ∧ Q (.bl (ds.any fun z => PyData.eqv z d)) H) := by
  intro pins s σ H x y v u Q I rx ry h
  obtain ⟨d, ds, hd, he, sd, se, q⟩ := h
  obtain ⟨as, r1⟩ := Dp.reads I d x v hd rx
  obtain ⟨bs, r2⟩ := Dp.reads I (.tuple ds) y u he ry
  exact SeqAt.in_tuple_reads r2 r1 (SeqAt.canLay_of_shaped se) (SeqAt.canLay_of_shaped sd) (room_in_shaped sd hu) ⟨.bl _, H, I, rfl, q⟩
theorem op_notInT {X : Cx} (hu : X.A.units + 65 < cLine) : OpR X (compareOp .NotIn) (fun x y H Q => ∃ d ds, Dp X.K H x d ∧ Dp X.K H y (.tuple ds) ∧ SeqAt.shaped d = true ∧ SeqAt.shaped (.tuple ds) = true ∧ Q (.bl (!ds.any fun z => PyData.eqv z d)) H) := by
  intro pins s σ H x y v u Q I rx ry h
  obtain ⟨d, ds, hd, he, sd, se, q⟩ := h
  obtain ⟨as, r1⟩ := Dp.reads I d x v hd rx
  obtain ⟨bs, r2⟩ := Dp.reads I (.tuple ds) y u he ry
  exact SeqAt.notIn_tuple_reads r2 r1 (SeqAt.canLay_of_shaped se) (SeqAt.canLay_of_shaped sd) (room_in_shaped sd hu) ⟨.bl _, H, I, rfl, q⟩
theorem any_eqv {p : PV} (hp : okD 30 p = true) : ∀ (ys : List PV), okDs 29 ys = true → (toDs ys).any (fun z => PyData.eqv z (toD p)) = inL p ys
  | [], _ => rfl
  | y :: ys, h => by
    simp only [okDs, Bool.and_eq_true] at h
    show (PyData.eqv (toD y) (toD p) || (toDs ys).any fun z => PyData.eqv z (toD p)) = (eqB y p || inL p ys)
    rw [eqv_eq 29 30 y p h.1 hp, any_eqv hp ys h.2]
theorem op_cop (hu5 : X.A.units + 65 < cLine) (o : Cop) : OpR X (compareOp (copM o)) (rB X.K (cmpP o)) := by
  intro pins s σ H x y v u Q I rx ry h
  obtain ⟨F, ρ, st, p, q, r, sk, vp, vq, e, g⟩ := h
  have hu : X.A.units + 64 < cLine := by omega
  cases o with
  | eq =>
    simp only [cmpP, eqP] at e
    split at e
    · rename_i ok
      rw [Bool.and_eq_true] at ok
      cases e
      have g1 := g.here sk (.bl _)
      refine op_eqD hu pins s σ H _ _ v u Q I rx ry ⟨_, _, vp.dp ok.1, vq.dp ok.2, okD_shaped ok.1, okD_shaped ok.2, ?_⟩
      rw [eqv_eq 30 30 p q ok.1 ok.2]
      exact g1
    · cases e
  | ne =>
    simp only [cmpP, eqP] at e
    split at e
    · rename_i ok
      rw [Bool.and_eq_true] at ok
      cases e
      have g1 := g.here sk (.bl _)
      refine op_neD hu pins s σ H _ _ v u Q I rx ry ⟨_, _, vp.dp ok.1, vq.dp ok.2, okD_shaped ok.1, okD_shaped ok.2, ?_⟩
      rw [eqv_eq 30 30 p q ok.1 ok.2]
      exact g1
    · cases e
  | lt =>
    cases p <;> cases q <;> simp only [cmpP] at e <;> try cases e
    · cases vp; cases vq
      exact op_lt pins s σ H _ _ v u Q I rx ry ⟨_, _, rfl, rfl, g.here sk (.bl _)⟩
    · obtain ⟨b, eb, rfl⟩ := Option.map_eq_some_iff.mp e
      obtain ⟨k1, k2, k3, rfl⟩ := ltT_some eb
      have g1 := g.here sk (.bl _)
      obtain ⟨as, r1⟩ := Dp.reads I _ x v (vp.dp k1) rx
      obtain ⟨bs, r2⟩ := Dp.reads I _ y u (vq.dp k2) ry
      have hd := okD_lay 30 _ k1
      refine PySem.W.lt_data r1 r2 (alike_eq _ _ k3) (alI_nn k3) (Nat.lt_of_le_of_lt (Nat.add_le_add_left (Nat.min_le_left _ _) _) (by have := hd.2; omega)) ⟨.bl _, H, I, rfl, ?_⟩
      rw [lt_eq 30 30 _ _ k1 k2 k3]
      exact g1
  | le =>
    cases p <;> cases q <;> simp only [cmpP] at e <;> try cases e
    · cases vp; cases vq
      exact op_le pins s σ H _ _ v u Q I rx ry ⟨_, _, rfl, rfl, g.here sk (.bl _)⟩
    · obtain ⟨b, eb, rfl⟩ := Option.map_eq_some_iff.mp e
      obtain ⟨k1, k2, k3, rfl⟩ := ltT_some eb
      have g1 := g.here sk (.bl _)
      obtain ⟨as, r1⟩ := Dp.reads I _ x v (vp.dp k2) rx
      obtain ⟨bs, r2⟩ := Dp.reads I _ y u (vq.dp k1) ry
      have hd := okD_lay 30 _ k2
      refine PySem.W.le_data r1 r2 (alike_eq _ _ (alI_comm _ _ k3)) (alI_nn (alI_comm _ _ k3)) (Nat.lt_of_le_of_lt (Nat.add_le_add_left (Nat.min_le_left _ _) _) (by have := hd.2; omega)) ⟨.bl _, H, I, rfl, ?_⟩
      rw [lt_eq 30 30 _ _ k1 k2 k3]
      exact g1
  | gt =>
    cases p <;> cases q <;> simp only [cmpP] at e <;> try cases e
    · cases vp; cases vq
      exact op_gt pins s σ H _ _ v u Q I rx ry ⟨_, _, rfl, rfl, g.here sk (.bl _)⟩
    · obtain ⟨b, eb, rfl⟩ := Option.map_eq_some_iff.mp e
      obtain ⟨k1, k2, k3, rfl⟩ := ltT_some eb
      have g1 := g.here sk (.bl _)
      obtain ⟨as, r1⟩ := Dp.reads I _ x v (vp.dp k2) rx
      obtain ⟨bs, r2⟩ := Dp.reads I _ y u (vq.dp k1) ry
      have hd := okD_lay 30 _ k2
      refine PySem.W.gt_data r1 r2 (alike_eq _ _ (alI_comm _ _ k3)) (alI_nn (alI_comm _ _ k3)) (Nat.lt_of_le_of_lt (Nat.add_le_add_left (Nat.min_le_left _ _) _) (by have := hd.2; omega)) ⟨.bl _, H, I, rfl, ?_⟩
      rw [lt_eq 30 30 _ _ k1 k2 k3]
      exact g1
  | ge =>
    cases p <;> cases q <;> simp only [cmpP] at e <;> try cases e
    · cases vp; cases vq
      exact op_ge pins s σ H _ _ v u Q I rx ry ⟨_, _, rfl, rfl, g.here sk (.bl _)⟩
    · obtain ⟨b, eb, rfl⟩ := Option.map_eq_some_iff.mp e
      obtain ⟨k1, k2, k3, rfl⟩ := ltT_some eb
      have g1 := g.here sk (.bl _)
      obtain ⟨as, r1⟩ := Dp.reads I _ x v (vp.dp k1) rx
      obtain ⟨bs, r2⟩ := Dp.reads I _ y u (vq.dp k2) ry
      have hd := okD_lay 30 _ k1
      refine PySem.W.ge_data r1 r2 (alike_eq _ _ k3) (alI_nn k3) (Nat.lt_of_le_of_lt (Nat.add_le_add_left (Nat.min_le_left _ _) _) (by have := hd.2; omega)) ⟨.bl _, H, I, rfl, ?_⟩
      rw [lt_eq 30 30 _ _ k1 k2 k3]
      exact g1
  | is_ =>
    simp only [cmpP] at e
    cases p <;> cases q <;> simp only [isP, Option.map_none, Option.map_some] at e <;> try cases e
    · cases vp; cases vq
      exact op_isN pins s σ H _ _ v u Q I rx ry ⟨rfl, g.here sk (.bl _)⟩
    · cases vp; cases vq
      exact op_isN pins s σ H _ _ v u Q I rx ry ⟨rfl, g.here sk (.bl _)⟩
    · cases vp; cases vq
      refine op_is_bl pins s σ H _ _ v u Q I rx ry ⟨_, _, rfl, rfl, ?_⟩
      have g1 := g.here sk (.bl _)
      rw [Bool.beq_eq_decide_eq] at g1
      exact g1
    · cases vp; cases vq
      exact op_isN pins s σ H _ _ v u Q I rx ry ⟨rfl, g.here sk (.bl _)⟩
    · cases vp; cases vq
      exact op_isN pins s σ H _ _ v u Q I rx ry ⟨rfl, g.here sk (.bl _)⟩
    · cases vp; cases vq
      exact op_isN pins s σ H _ _ v u Q I rx ry ⟨rfl, g.here sk (.bl _)⟩
    · obtain ⟨a, vs, rfl, _⟩ := vp
      cases vq
      exact op_isN pins s σ H _ _ v u Q I rx ry ⟨rfl, g.here sk (.bl _)⟩
  | isnot =>
    simp only [cmpP] at e
    cases p <;> cases q <;> simp only [isP, Option.map_none, Option.map_some] at e <;> try cases e
    · cases vp; cases vq
      exact op_notN pins s σ H _ _ v u Q I rx ry ⟨rfl, g.here sk (.bl _)⟩
    · cases vp; cases vq
      exact op_notN pins s σ H _ _ v u Q I rx ry ⟨rfl, g.here sk (.bl _)⟩
    · cases vp; cases vq
      refine op_isnot_bl pins s σ H _ _ v u Q I rx ry ⟨_, _, rfl, rfl, ?_⟩
      have g1 := g.here sk (.bl _)
      rw [Bool.beq_eq_decide_eq] at g1
      exact g1
    · cases vp; cases vq
      exact op_notN pins s σ H _ _ v u Q I rx ry ⟨rfl, g.here sk (.bl _)⟩
    · cases vp; cases vq
      exact op_notN pins s σ H _ _ v u Q I rx ry ⟨rfl, g.here sk (.bl _)⟩
    · cases vp; cases vq
      exact op_notN pins s σ H _ _ v u Q I rx ry ⟨rfl, g.here sk (.bl _)⟩
    · obtain ⟨a, vs, rfl, _⟩ := vp
      cases vq
      exact op_notN pins s σ H _ _ v u Q I rx ry ⟨rfl, g.here sk (.bl _)⟩
  | isin =>
    cases q <;> simp only [cmpP] at e <;> try cases e
    · split at e
      · rename_i ok
        rw [Bool.and_eq_true] at ok
        cases e
        have g1 := g.here sk (.bl _)
        refine op_inT hu5 pins s σ H _ _ v u Q I rx ry ⟨_, _, vp.dp ok.1, vq.dp ok.2, okD_shaped ok.1, okD_shaped ok.2, ?_⟩
        rw [any_eqv ok.1 _ (show okDs 29 _ = true from ok.2)]
        exact g1
      · cases e
    · split at e
      · rename_i ok
        rw [Bool.and_eq_true] at ok
        cases e
        have g1 := g.here sk (.bl _)
        refine op_inD hu5 pins s σ H _ _ v u Q I rx ry ⟨_, _, vp.dp ok.1, vq.dp ok.2, okD_shaped ok.1, okD_shaped ok.2, ?_⟩
        rw [any_eqv ok.1 _ (show okDs 29 _ = true from ok.2)]
        exact g1
      · cases e
  | notin =>
    cases q <;> simp only [cmpP] at e <;> try cases e
    · split at e
      · rename_i ok
        rw [Bool.and_eq_true] at ok
        cases e
        have g1 := g.here sk (.bl _)
        refine op_notInT hu5 pins s σ H _ _ v u Q I rx ry ⟨_, _, vp.dp ok.1, vq.dp ok.2, okD_shaped ok.1, okD_shaped ok.2, ?_⟩
        rw [any_eqv ok.1 _ (show okDs 29 _ = true from ok.2)]
        exact g1
      · cases e
    · split at e
      · rename_i ok
        rw [Bool.and_eq_true] at ok
        cases e
        have g1 := g.here sk (.bl _)
        refine op_notInD hu5 pins s σ H _ _ v u Q I rx ry ⟨_, _, vp.dp ok.1, vq.dp ok.2, okD_shaped ok.1, okD_shaped ok.2, ?_⟩
        rw [any_eqv ok.1 _ (show okDs 29 _ = true from ok.2)]
        exact g1
      · cases e

theorem atI_of {ps : List PV} {i : Int} {r : PV} (h : atL ps i = some r) {α : Type} {vs : List α} (hl : vs.length = ps.length) : ∃ j : Nat, ps[j]? = some r ∧ ∀ w, vs[j]? = some w → L2.atI vs i = some w := by
  unfold atL at h
  split at h
  · rename_i h0
    refine ⟨i.toNat, h, fun w hw => ?_⟩
    have := atI_nat hw
    rw [Int.toNat_of_nonneg h0] at this
    exact this
  · rename_i h0
    split at h
    · rename_i h1
      refine ⟨_, h, fun w hw => ?_⟩
      have hj := (List.getElem?_eq_some_iff.mp h).1
      unfold L2.atI L2.ixN
      rw [if_neg h0, if_pos (by omega)]
      show vs[(i + (vs.length : Int)).toNat]? = some w
      rw [hl, Int.add_comm]
      exact hw
    · cases h
def rIx (K : PySem.W.Frag) : R2 := fun x y H Q => ∃ F ρ st p q r, StoOk K F ρ H st ∧ Vw K F ρ H x p ∧ Vw K F ρ H y q ∧ ixS st p q = some r ∧ Giv K F ρ H st Q r
theorem op_ix : IxR X (rIx X.K) := by
  intro value slice pins s σ H x y v u Q I rx ry h hs
  obtain ⟨F, ρ, st, p, q, r, sk, vp, vq, e, g⟩ := h
  cases p <;> cases q <;> simp only [ixS, ixP] at e <;> try cases e
  · cases vq
    cases vp with
    | tup f1 s1 r1 =>
    obtain ⟨j, h1, h2⟩ := atI_of e r1.len
    obtain ⟨w, hw, rw'⟩ := r1.get' h1
    exact ix_tup value slice pins s σ H _ _ v u Q I rx ry ⟨_, _, _, _, rfl, rfl, .inl (.inl s1), h2 w hw, g.here sk rw'⟩ hs
  · cases vq
    obtain ⟨a, vs, rfl, _, s1, r1⟩ := vp
    obtain ⟨j, h1, h2⟩ := atI_of e r1.len
    obtain ⟨w, hw, rw'⟩ := r1.get' h1
    exact ix_list value slice pins s σ H _ _ v u Q I rx ry ⟨_, _, _, _, rfl, rfl, SqL.of s1, h2 w hw, g.here sk rw'⟩ hs
  · cases vq
    cases vp with
    | cel hk =>
    split at e
    · rename_i xs hx
      obtain ⟨vs, s1, r1⟩ := sk.at_ _ _ _ hk hx
      obtain ⟨j, h1, h2⟩ := atI_of e r1.len
      obtain ⟨w, hw, rw'⟩ := r1.get' h1
      exact ix_list value slice pins s σ H _ _ v u Q I rx ry ⟨_, _, _, _, rfl, rfl, SqL.of s1, h2 w hw, g.here sk rw'⟩ hs
    · cases e
theorem cutIx_eq (n d : Nat) (o : Option Int) : cutIx n d o = HT.sIx n d o := by
  cases o with
  | none => rfl
  | some i =>
    unfold cutIx HT.sIx
    simp only [Int.add_comm]
theorem RepL.cut {K : PySem.W.Frag} {F : Addr → Prop} {ρ : List Addr} {H : Hp} {vs : List V} {ps : List PV} (r : RepL K F ρ H vs ps) (lo hi : Option Int) : RepL K F ρ H (L2.cutV vs lo hi) (cutL ps lo hi) := by
  unfold L2.cutV cutL
  rw [cutIx_eq, cutIx_eq, r.len]
  exact RepL.take _ (RepL.drop _ r)
theorem op_sl : SlR X (fun x lo hi H Q => ∃ F ρ st p r, StoOk X.K F ρ H st ∧ Vw X.K F ρ H x p ∧ slP p lo hi = some r ∧ Giv X.K F ρ H st Q r) := by
  intro pins s σ H x v vl vu lo hi sl Q I rx hs pl pu h
  obtain ⟨F, ρ, st, p, r, sk, vp, e, g⟩ := h
  cases p <;> simp only [slP] at e <;> try cases e
  · cases vp with
    | tup f1 s1 r1 =>
    refine sl_tupA pins s σ H _ v vl vu lo hi sl Q I rx hs pl pu ⟨_, _, rfl, .inl (.inl s1), fun hw => ?_, fun _ => g.tup sk (r1.cut lo hi)⟩
    refine g.here sk (.tup f1 s1 ?_)
    have q := r1.cut lo hi
    unfold L2.cutV at q
    rw [hw.1, hw.2, Nat.sub_zero, List.drop_zero, List.take_length] at q
    exact q
  · obtain ⟨a, vs, rfl, _, s1, r1⟩ := vp
    exact sl_list pins s σ H _ v vl vu lo hi sl Q I rx hs pl pu ⟨_, _, rfl, SqL.of s1, g.lst sk (r1.cut lo hi)⟩

/-! ### builtin calls -/
inductive VwL (K : PySem.W.Frag) (F : Addr → Prop) (ρ : List Addr) (H : Hp) : List V → List PV → Prop
  | nil : VwL K F ρ H [] []
  | cons {v : V} {p : PV} {vs : List V} {ps : List PV} : Vw K F ρ H v p → VwL K F ρ H vs ps → VwL K F ρ H (v :: vs) (p :: ps)
theorem ints_rep {K : PySem.W.Frag} {F : Addr → Prop} {ρ : List Addr} {H : Hp} : ∀ {ps : List PV} {vs : List V} {ns : List Int}, RepL K F ρ H vs ps → intsOf ps = some ns → vs = ns.map V.int
  | [], _, ns, r, e => by
    cases r
    simp only [intsOf, Option.some.injEq] at e
    subst e; rfl
  | p :: ps, _, ns, r, e => by
    cases r with
    | cons a b =>
      cases p <;> simp only [intsOf] at e <;> try cases e
      cases h : intsOf ps with
      | none => rw [h] at e; cases e
      | some ms =>
        rw [h] at e
        cases e
        cases a
        rw [ints_rep b h, List.map_cons]
theorem bls_rep {K : PySem.W.Frag} {F : Addr → Prop} {ρ : List Addr} {H : Hp} : ∀ {ps : List PV} {vs : List V} {ns : List Bool}, RepL K F ρ H vs ps → blsOf ps = some ns → vs = ns.map V.bl
  | [], _, ns, r, e => by
    cases r
    simp only [blsOf, Option.some.injEq] at e
    subst e; rfl
  | p :: ps, _, ns, r, e => by
    cases r with
    | cons a b =>
      cases p <;> simp only [blsOf] at e <;> try cases e
      cases h : blsOf ps with
      | none => rw [h] at e; cases e
      | some ms =>
        rw [h] at e
        cases e
        cases a
        rw [bls_rep b h, List.map_cons]
theorem rep_ints {K : PySem.W.Frag} {F : Addr → Prop} {ρ : List Addr} {H : Hp} : ∀ ns : List Int, RepL K F ρ H (ns.map V.int) (ns.map PV.int)
  | [] => .nil
  | n :: ns => .cons (.int n) (rep_ints ns)
theorem sumI_eq : ∀ ns : List Int, sumI ns = ns.sum
  | [] => rfl
  | x :: r => by rw [sumI, List.sum_cons, sumI_eq r]
def bfV : Bf → Value
  | .len => .builtin "len" | .abs => .builtin "abs" | .int => .type "int" | .tuple => .type "tuple" | .list => .type "list" | .sum => .builtin "sum" | .min => .builtin "min" | .max => .builtin "max"
  | .all => .builtin "all" | .any => .builtin "any" | .sorted => .builtin "sorted" | .set => .type "set" | .dict => .type "dict" | .str => .type "str" | .bool => .type "bool"
theorem maxI_ok : ∀ (r : List Int) (m : Int), maxI m r ∈ m :: r ∧ ∀ y ∈ m :: r, y ≤ maxI m r
  | [], m => by simp [maxI]
  | x :: r, m => by
    obtain ⟨h1, h2⟩ := maxI_ok r (if m < x then x else m)
    unfold maxI
    have h3 := h2 _ List.mem_cons_self
    refine ⟨?_, fun y hy => ?_⟩
    · rcases List.mem_cons.mp h1 with h | h
      · rw [h]; split <;> simp
      · simp [h]
    · rcases List.mem_cons.mp hy with rfl | hy
      · split at h3 <;> split <;> omega
      · rcases List.mem_cons.mp hy with rfl | hy
        · split at h3 <;> split <;> omega
        · exact h2 y (List.mem_cons_of_mem _ hy)
theorem minI_ok : ∀ (r : List Int) (m : Int), minI m r ∈ m :: r ∧ ∀ y ∈ m :: r, minI m r ≤ y
  | [], m => by simp [minI]
  | x :: r, m => by
    obtain ⟨h1, h2⟩ := minI_ok r (if x < m then x else m)
    unfold minI
    have h3 := h2 _ List.mem_cons_self
    refine ⟨?_, fun y hy => ?_⟩
    · rcases List.mem_cons.mp h1 with h | h
      · rw [h]; split <;> simp
      · simp [h]
    · rcases List.mem_cons.mp hy with rfl | hy
      · split at h3 <;> split <;> omega
      · rcases List.mem_cons.mp hy with rfl | hy
        · split at h3 <;> split <;> omega
        · exact h2 y (List.mem_cons_of_mem _ hy)
/-! ### sorted(d), d a dict whose keys are tuples of ints -/
theorem keyP_tup {p : PV} {ns : List Int} (h : keyP p = some ns) : ∃ xs, p = .tup xs ∧ intsOf xs = some ns := by
  cases p <;> simp only [keyP] at h <;> first | cases h | exact ⟨_, rfl, h⟩
theorem ints_repL {K : PySem.W.Frag} {F : Addr → Prop} {ρ : List Addr} {H : Hp} : ∀ {xs : List PV} {ns : List Int}, intsOf xs = some ns → RepL K F ρ H (ns.map V.int) xs
  | [], ns, h => by
    simp only [intsOf, Option.some.injEq] at h
    subst h
    exact .nil
  | x :: xs, ns, h => by
    cases x <;> simp only [intsOf] at h <;> try cases h
    obtain ⟨ms, e1, rfl⟩ := Option.map_eq_some_iff.mp h
    exact .cons (.int _) (ints_repL e1)
/-- a key at an address -/
def KeyAt (H : Hp) (z : Addr × PV) : Prop := ∃ ns, keyP z.2 = some ns ∧ H z.1 = some (.tup (ns.map V.int))
theorem KeyAt.rep {K : PySem.W.Frag} {F : Addr → Prop} {ρ : List Addr} {H : Hp} {z : Addr × PV} (h : KeyAt H z) (f : F z.1) : Rep K F ρ H (.ref z.1) z.2 := by
  obtain ⟨ns, h1, h2⟩ := h
  obtain ⟨xs, e, h3⟩ := keyP_tup h1
  rw [e]
  exact .tup f h2 (ints_repL h3)
theorem sorted_dT {X : Cx} (hc : X.calm = true) (hu : X.A.units + 65 < cLine) {pins : List (Addr × Obj)} {s : Shared} {σ : L2.St} {H : Hp} {a : Addr} {kvs : List (PV × PV)} {Q : VK} (I : L2.Inv X pins σ H s) (hd : Rd H a (.dT (kvs.map fD))) (hok : dOk kvs = true) (hso : srtOk (kvs.map (·.1)) = true)
    (q : ∀ (zs : List (Addr × PV)) (D : Addr), (∀ z ∈ zs, KeyAt H z) → zs.map (·.2) = (kvs.map (·.1)).mergeSort leB → H D = none → Q (.ref D) (upd H D (.lst (zs.map fun z => V.ref z.1)))) :
    wpAny (model X.prog X.w) X.A (call (.builtin "sorted") [.ref a]) (EP X pins σ Q) X.xe s := by
  obtain ⟨z, lo, xs, rel, o, es, ep, ho, hx, hdat, hes, his, hn'⟩ := dt_rd I.hok hd
  have l1 : (kvs.map fD).length = xs.length := Paired.length rel
  have l2 : es.size = xs.length := size_of_entries hes
  rw [List.length_map] at l1 z
  have hlen : ((xs.map (·.2.1)).zip (kvs.map (·.1))).length = kvs.length := by rw [List.length_zip, List.length_map, List.length_map]; omega
  unfold srtOk at hso
  rw [Bool.and_eq_true] at hso
  obtain ⟨hal, hk⟩ := hso
  obtain ⟨hok2, hpw⟩ := alAll_of hal
  have hkey : ∀ w ∈ (xs.map (·.2.1)).zip (kvs.map (·.1)), KeyAt H w := fun w hw => by
    obtain ⟨j, hj⟩ := List.mem_iff_getElem?.mp hw
    rw [List.getElem?_zip_eq_some] at hj
    obtain ⟨h1, h2⟩ := hj
    rw [List.getElem?_map] at h1 h2
    obtain ⟨x, hx1, ex⟩ := Option.map_eq_some_iff.mp h1
    obtain ⟨kv, hk1, ek⟩ := Option.map_eq_some_iff.mp h2
    obtain ⟨e0, he0, r1, r2, r3⟩ := L2.DX.pget rel hx1
    rw [List.getElem?_map, hk1] at he0
    have he0 : fD kv = e0 := Option.some.inj he0
    have hkk := (List.all_eq_true.mp hok) kv (List.mem_of_getElem? hk1)
    rw [Bool.and_eq_true] at hkk
    obtain ⟨ns, hns⟩ := Option.isSome_iff_exists.mp hkk.1
    refine ⟨ns, by rw [← ek]; exact hns, ?_⟩
    rw [← ex, r2, ← he0]
    show some (HO.tup (((keyD kv.1).map Sum.inl : List L2.Key).map kV)) = _
    unfold keyD
    rw [hns]
    show some (HO.tup ((ns.map Sum.inl : List L2.Key).map kV)) = _
    rw [List.map_map]
    rfl
  have hmem : ∀ w ∈ (xs.map (·.2.1)).zip (kvs.map (·.1)), w.2 ∈ kvs.map (·.1) := fun w hw => (List.of_mem_zip hw).2
  have hsnd : ((xs.map (·.2.1)).zip (kvs.map (·.1))).map (·.2) = kvs.map (·.1) := List.map_snd_zip (by rw [List.length_map, List.length_map]; omega)
  have hmap : ((xs.map (·.2.1)).zip (kvs.map (·.1))).map (fun w : Addr × PV => toD w.2) = (kvs.map (·.1)).map toD := by
    have := congrArg (List.map toD) hsnd
    rw [List.map_map] at this
    exact this
  refine Calls.call_function_entry PyProof.Rows.kind_sorted PyProof.Rows.plain_sorted PyProof.Rows.entry_sorted (PyProof.Rows.args_sorted1 _) ?_
  unfold Builtin.«sorted»
  refine wpAny_bind (m := checkCount "sorted" 1 1 _) (wpAny_pure ?_)
  refine wpAny_bind (PySem.W.kdu_collect (A := X.A.in1) (PySem.KdlSrc.rawDict (es := es) (ep := ep) lo) (I.ok.hd hc) ⟨o, ho, hx, hdat⟩ (by omega) fun h' tk acc hk' hacc => ?_)
  have hal2 : acc.toList.length = kvs.length := by rw [Array.length_toList, hacc.1]; omega
  have er0 : PySem.W.EachIs (fun (u : Value) (w : Addr × PV) => u = Value.ref w.1) acc.toList ((xs.map (·.2.1)).zip (kvs.map (·.1))) := by
    refine PySem.W.EachIs.of_zip (by rw [hal2, hlen]) fun p hp => ?_
    obtain ⟨j, hj⟩ := List.mem_iff_getElem?.mp hp
    rw [List.getElem?_zip_eq_some] at hj
    obtain ⟨h1, h2⟩ := hj
    rw [List.getElem?_zip_eq_some] at h2
    have h3 := h2.1
    rw [List.getElem?_map] at h3
    obtain ⟨x, hx1, ex⟩ := Option.map_eq_some_iff.mp h3
    obtain ⟨hi, ev⟩ := hacc.2 j p.1 (by rw [← Array.getElem?_toList]; exact h1)
    have h4 := entry_at hes j
    rw [hx1, Array.getElem?_eq_getElem hi] at h4
    have h5 := Option.some.inj h4
    rw [ev, h5, ← ex]
    rfl
  refine wpAny_bind (wpAny_newList ?_ (by rw [hal2]; exact z))
  have hoL : (h'.push (seqObj "list" acc.toList.toArray 0)).get? h'.objs.size = some (seqObj "list" acc.toList.toArray 0) := Heap.get?_push_size _ rfl
  show wpAny _ _ _ _ _ { s with heap := h'.push (seqObj "list" acc.toList.toArray 0), toks := tk }
  have er : PySem.W.EachIs (fun (v : Value) (w : Addr × PV) => ∃ as, Reads (PySem.W.sortingHeap (h'.push (seqObj "list" acc.toList.toArray 0)) h'.objs.size acc.toList) v (toD w.2) as) acc.toList ((xs.map (·.2.1)).zip (kvs.map (·.1))) := by
    refine PySem.W.EachIs.of_zip er0.length fun p hp => ?_
    have hp1 := er0.zip p hp
    have hp2 := (List.of_mem_zip hp).2
    obtain ⟨as, r⟩ := Dp.reads I (toD p.2.2) (.ref p.2.1) p.1 (Rep.dp (F := fun _ => True) (ρ := []) 29 _ _ (okDs_mem hok2 _ (hmem _ hp2)) ((hkey _ hp2).rep trivial)) hp1
    refine ⟨as, PyProof.Rows.Reads.keeps (fun b o hb => ?_) r⟩
    have hb2 := hk' b o hb
    exact PySem.W.sortingHeap_old (Nat.ne_of_lt (Heap.lt_size hb2)) (Heap.get?_push_of_some _ hb2)
  have hAl : PySem.W.AllAlike (((xs.map (·.2.1)).zip (kvs.map (·.1))).map fun w : Addr × PV => toD w.2) := by
    rw [hmap]
    intro d hd d' hd'
    obtain ⟨p, hp, rfl⟩ := List.mem_map.mp hd
    obtain ⟨q, hq, rfl⟩ := List.mem_map.mp hd'
    exact alike_eq p q (hpw p hp q hq)
  have hSo : PySem.W.Sortable (((xs.map (·.2.1)).zip (kvs.map (·.1))).map fun w : Addr × PV => toD w.2) := by
    rw [hmap]
    rcases Bool.or_eq_true_iff.mp hk with hk | hk
    · refine .inl fun d hd => ?_
      obtain ⟨p, hp, rfl⟩ := List.mem_map.mp hd
      have hp2 := List.all_eq_true.mp hk p hp
      cases p <;> simp only [nTup] at hp2 <;> try cases hp2
      rename_i ys
      cases ys with
      | nil => cases hp2
      | cons y ys => exact ⟨toD y, toDs ys, rfl⟩
    · refine .inr fun d hd => ?_
      obtain ⟨p, hp, rfl⟩ := List.mem_map.mp hd
      have hp2 := List.all_eq_true.mp hk p hp
      cases p <;> simp only [isI] at hp2 <;> try cases hp2
      exact ⟨by simp [toD], by simp [toD]⟩
  have hdep : ∀ d, d ∈ ((xs.map (·.2.1)).zip (kvs.map (·.1))).map (fun w : Addr × PV => toD w.2) → X.A.in1.in1.units + d.depth < cLine := fun d hd => by
    rw [hmap] at hd
    obtain ⟨p, hp, rfl⟩ := List.mem_map.mp hd
    have := (okD_lay 29 p (okDs_mem hok2 _ hp)).2
    show X.A.units + 1 + 1 + (toD p).depth < cLine
    omega
  have eo := PySem.W.sortVals_data (R := fun (u : Value) (w : Addr × PV) => u = Value.ref w.1) (enc := fun w : Addr × PV => toD w.2) false er0 er hAl
  refine wpAny_bind (wpAny_holding (wpAny_call_entry PyProof.Rows.slot_list_sort ⟨_, hoL, rfl⟩ PyProof.Rows.entry_list_sort
    (PySem.W.list_sort_vals (s := { s with heap := h'.push (seqObj "list" acc.toList.toArray 0), toks := tk }) hoL
      (PySem.W.SortsAt.data (A := X.A.in1.in1) (s := { s with heap := PySem.W.sortingHeap (h'.push (seqObj "list" acc.toList.toArray 0)) h'.objs.size acc.toList, toks := tk }) (PySem.W.each_map (R := fun v d => ∃ as, Reads (PySem.W.sortingHeap (h'.push (seqObj "list" acc.toList.toArray 0)) h'.objs.size acc.toList) v d as) (fun w : Addr × PV => toD w.2) er) hAl hSo hdep) (by rw [hal2]; exact z) ⟨_, rfl, ?_⟩) (PyProof.Rows.args_list_sort _)))
  generalize PySem.W.sortVals (PySem.W.dataKind (PySem.W.sortingHeap (h'.push (seqObj "list" acc.toList.toArray 0)) h'.objs.size acc.toList) (((xs.map (·.2.1)).zip (kvs.map (·.1))).map fun w : Addr × PV => toD w.2)) false acc.toList acc.toList = out at eo ⊢
  obtain ⟨e', he'⟩ := PyProof.Rows.sortedHeap_at (vs := acc.toList) (out := out.toArray) hoL
  have hperm := List.mergeSort_perm ((xs.map (·.2.1)).zip (kvs.map (·.1))) (PySem.W.dataLe false fun w : Addr × PV => toD w.2)
  have hsrt : (((xs.map (·.2.1)).zip (kvs.map (·.1))).mergeSort (PySem.W.dataLe false fun w : Addr × PV => toD w.2)).map (·.2) = (kvs.map (·.1)).mergeSort leB := by
    rw [List.map_mergeSort (s := leB) fun p hp q hq => ?_]
    · rw [hsnd]
    · show (!PySem.W.dataLt (toD q.2) (toD p.2)) = (!ltB q.2 p.2)
      rw [lt_of_al hal q.2 (hmem q hq) p.2 (hmem p hp)]
  have hvo : Vals ((((xs.map (·.2.1)).zip (kvs.map (·.1))).mergeSort (PySem.W.dataLe false fun w : Addr × PV => toD w.2)).map fun w => V.ref w.1) out := by
    clear hperm hsrt he'
    generalize ((xs.map (·.2.1)).zip (kvs.map (·.1))).mergeSort (PySem.W.dataLe false fun w : Addr × PV => toD w.2) = zs at eo
    induction eo with
    | nil => exact .nil
    | cons h _ ih => exact .cons (by rw [h]; rfl) ih
  have hL2 : ((((xs.map (·.2.1)).zip (kvs.map (·.1))).mergeSort (PySem.W.dataLe false fun w : Addr × PV => toD w.2)).map fun w => V.ref w.1).length ≤ sizeLine := by
    rw [List.length_map, List.length_mergeSort, hlen]; exact z
  have I1 : Inv X pins σ H { s with heap := h', toks := tk } := I.kept hk'
  refine wpAny_pure ⟨_, rfl, .ref h'.objs.size, upd H h'.objs.size (.lst ((((xs.map (·.2.1)).zip (kvs.map (·.1))).mergeSort (PySem.W.dataLe false fun w : Addr × PV => toD w.2)).map fun w => V.ref w.1)), I1.laid (t' := tk) (fun b u e => ?_) (Nat.le_refl _) ⟨hL2, out, e', hvo, he'⟩, rfl, q _ _ (fun w hw => hkey w (hperm.mem_iff.mp hw)) hsrt (I1.hok.fresh (Nat.le_refl _))⟩
  have hb : b < h'.objs.size := Heap.lt_size e
  rw [PyProof.Rows.sortedHeap_old (Nat.ne_of_lt hb) (by rw [size_push']; exact Nat.lt_succ_of_lt hb)]
  exact Heap.get?_push_of_some _ e

theorem sorted_tupA {X : Cx} (hc : X.calm = true) (hu : X.A.units + 65 < cLine) {pins : List (Addr × Obj)} {s : Shared} {σ : L2.St} {H : Hp} {a : Addr} {vs : List V} {xs : List PV} {F : Addr → Prop} {ρ : List Addr} {Q : VK} (I : L2.Inv X pins σ H s) (hd : SqT X.K H a vs) (r1 : RepL X.K F ρ H vs xs) (hso : srtOk xs = true)
    (q : ∀ (zs : List (V × PV)) (D : Addr), (∀ z ∈ zs, z ∈ vs.zip xs) → zs.map (·.2) = xs.mergeSort leB → H D = none → Q (.ref D) (upd H D (.lst (zs.map fun z => z.1)))) :
    wpAny (model X.prog X.w) X.A (call (.builtin "sorted") [.ref a]) (EP X pins σ Q) X.xe s := by
  obtain ⟨its, rv, ⟨o, ho, hcl, n, hdat⟩, hz⟩ := I.tuple hd
  have ll := lim_line
  have hlen := r1.len
  have hlv := rv.length
  unfold srtOk at hso
  rw [Bool.and_eq_true] at hso
  obtain ⟨hal, hk⟩ := hso
  obtain ⟨hok, hpw⟩ := alAll_of hal
  have hzm : ∀ z ∈ vs.zip xs, z.2 ∈ xs := fun z hz => (List.of_mem_zip hz).2
  have hsnd : (vs.zip xs).map (·.2) = xs := List.map_snd_zip (by omega)
  have hmap : (vs.zip xs).map (fun z : V × PV => toD z.2) = xs.map toD := by
    have : (vs.zip xs).map (fun z : V × PV => toD z.2) = ((vs.zip xs).map Prod.snd).map toD := by rw [List.map_map]; rfl
    rw [this, List.map_snd_zip (by omega)]
  refine Calls.call_function_entry PyProof.Rows.kind_sorted PyProof.Rows.plain_sorted PyProof.Rows.entry_sorted (PyProof.Rows.args_sorted1 _) ?_
  unfold Builtin.«sorted»
  refine wpAny_bind (m := checkCount "sorted" 1 1 _) (wpAny_pure ?_)
  refine wpAny_bind (PySem.wpAny_collect_seq (A := X.A.in1) a (T := "tuple") (.inr rfl) ho hcl hdat (fun h' hk' => ?_) (by rw [List.size_toArray]; omega))
  have hal2 : its.toArray.toList.length = vs.length := by simp; omega
  have er0 : PySem.W.EachIs (fun (u : Value) (z : V × PV) => RelV z.1 u) its.toArray.toList (vs.zip xs) := by simpa using each_vals rv hlen
  generalize its.toArray.toList = acc at hal2 er0 ⊢
  refine wpAny_bind (wpAny_newList ?_ (by omega))
  have hoL : (h'.push (seqObj "list" acc.toArray 0)).get? h'.objs.size = some (seqObj "list" acc.toArray 0) := Heap.get?_push_size _ rfl
  show wpAny _ _ _ _ _ { s with heap := h'.push (seqObj "list" acc.toArray 0), toks := s.toks }
  have er : PySem.W.EachIs (fun (v : Value) (w : V × PV) => ∃ as, Reads (PySem.W.sortingHeap (h'.push (seqObj "list" acc.toArray 0)) h'.objs.size acc) v (toD w.2) as) acc (vs.zip xs) := by
    refine PySem.W.EachIs.of_zip er0.length fun p hp => ?_
    have hp1 := er0.zip p hp
    have hp2 := (List.of_mem_zip hp).2
    obtain ⟨as, r⟩ := Dp.reads I (toD p.2.2) p.2.1 p.1 (Rep.dp 29 _ _ (okDs_mem hok _ (hzm _ hp2)) (repL_zip r1 _ hp2)) hp1
    refine ⟨as, PyProof.Rows.Reads.keeps (fun b o hb => ?_) r⟩
    have hb2 := hk' b o hb
    exact PySem.W.sortingHeap_old (Nat.ne_of_lt (Heap.lt_size hb2)) (Heap.get?_push_of_some _ hb2)
  have hAl : PySem.W.AllAlike ((vs.zip xs).map fun w : V × PV => toD w.2) := by
    rw [hmap]
    intro d hd d' hd'
    obtain ⟨p, hp, rfl⟩ := List.mem_map.mp hd
    obtain ⟨q, hq, rfl⟩ := List.mem_map.mp hd'
    exact alike_eq p q (hpw p hp q hq)
  have hSo : PySem.W.Sortable ((vs.zip xs).map fun w : V × PV => toD w.2) := by
    rw [hmap]
    rcases Bool.or_eq_true_iff.mp hk with hk | hk
    · refine .inl fun d hd => ?_
      obtain ⟨p, hp, rfl⟩ := List.mem_map.mp hd
      have hp2 := List.all_eq_true.mp hk p hp
      cases p <;> simp only [nTup] at hp2 <;> try cases hp2
      rename_i ys
      cases ys with
      | nil => cases hp2
      | cons y ys => exact ⟨toD y, toDs ys, rfl⟩
    · refine .inr fun d hd => ?_
      obtain ⟨p, hp, rfl⟩ := List.mem_map.mp hd
      have hp2 := List.all_eq_true.mp hk p hp
      cases p <;> simp only [isI] at hp2 <;> try cases hp2
      exact ⟨by simp [toD], by simp [toD]⟩
  have hdep : ∀ d, d ∈ (vs.zip xs).map (fun w : V × PV => toD w.2) → X.A.in1.in1.units + d.depth < cLine := fun d hd => by
    rw [hmap] at hd
    obtain ⟨p, hp, rfl⟩ := List.mem_map.mp hd
    have := (okD_lay 29 p (okDs_mem hok _ hp)).2
    show X.A.units + 1 + 1 + (toD p).depth < cLine
    omega
  have eo := PySem.W.sortVals_data (R := fun (u : Value) (z : V × PV) => RelV z.1 u) (enc := fun w : V × PV => toD w.2) false er0 er hAl
  refine wpAny_bind (wpAny_holding (wpAny_call_entry PyProof.Rows.slot_list_sort ⟨_, hoL, rfl⟩ PyProof.Rows.entry_list_sort
    (PySem.W.list_sort_vals (s := { s with heap := h'.push (seqObj "list" acc.toArray 0), toks := s.toks }) hoL
      (PySem.W.SortsAt.data (A := X.A.in1.in1) (s := { s with heap := PySem.W.sortingHeap (h'.push (seqObj "list" acc.toArray 0)) h'.objs.size acc, toks := s.toks }) (PySem.W.each_map (R := fun v d => ∃ as, Reads (PySem.W.sortingHeap (h'.push (seqObj "list" acc.toArray 0)) h'.objs.size acc) v d as) (fun w : V × PV => toD w.2) er) hAl hSo hdep) (by omega) ⟨_, rfl, ?_⟩) (PyProof.Rows.args_list_sort _)))
  generalize PySem.W.sortVals (PySem.W.dataKind (PySem.W.sortingHeap (h'.push (seqObj "list" acc.toArray 0)) h'.objs.size acc) ((vs.zip xs).map fun w : V × PV => toD w.2)) false acc acc = out at eo ⊢
  obtain ⟨e', he'⟩ := PyProof.Rows.sortedHeap_at (vs := acc) (out := out.toArray) hoL
  have hperm := List.mergeSort_perm (vs.zip xs) (PySem.W.dataLe false fun w : V × PV => toD w.2)
  have hsrt : ((vs.zip xs).mergeSort (PySem.W.dataLe false fun w : V × PV => toD w.2)).map (·.2) = xs.mergeSort leB := by
    rw [List.map_mergeSort (s := leB) fun p hp q hq => ?_]
    · rw [hsnd]
    · show (!PySem.W.dataLt (toD q.2) (toD p.2)) = (!ltB q.2 p.2)
      rw [lt_of_al hal q.2 (hzm q hq) p.2 (hzm p hp)]
  have hvo : Vals (((vs.zip xs).mergeSort (PySem.W.dataLe false fun w : V × PV => toD w.2)).map fun w => w.1) out := vals_each eo
  have hL2 : (((vs.zip xs).mergeSort (PySem.W.dataLe false fun w : V × PV => toD w.2)).map fun w => w.1).length ≤ sizeLine := by
    rw [List.length_map, List.length_mergeSort, List.length_zip]; omega
  have I1 : Inv X pins σ H { s with heap := h', toks := s.toks } := I.kept hk'
  refine wpAny_pure ⟨_, rfl, .ref h'.objs.size, upd H h'.objs.size (.lst (((vs.zip xs).mergeSort (PySem.W.dataLe false fun w : V × PV => toD w.2)).map fun w => w.1)), I1.laid (t' := s.toks) (fun b u e => ?_) (Nat.le_refl _) ⟨hL2, out, e', hvo, he'⟩, rfl, q _ _ (fun w hw => hperm.mem_iff.mp hw) hsrt (I1.hok.fresh (Nat.le_refl _))⟩
  have hb : b < h'.objs.size := Heap.lt_size e
  rw [PyProof.Rows.sortedHeap_old (Nat.ne_of_lt hb) (by rw [size_push']; exact Nat.lt_succ_of_lt hb)]
  exact Heap.get?_push_of_some _ e
theorem op_bf (hc : X.calm = true) (hu : X.A.units + 65 < cLine) (f : Bf) : CallR X (bfV f) (fun xs H Q => ∃ F ρ st ps r, StoOk X.K F ρ H st ∧ VwL X.K F ρ H xs ps ∧ bfP f ps = some r ∧ Giv X.K F ρ H st Q r) := by
  intro pins s σ H xs us Q I rs h
  obtain ⟨F, ρ, st, ps, r, sk, vp, e, g⟩ := h
  unfold bfP at e
  split at e <;> try cases e
  · -- len
    cases vp with
    | cons a b =>
    cases b
    cases a with
    | tup f1 s1 r1 =>
    have l1 := r1.len
    refine call_len_seq pins s σ H _ us Q I rs ⟨_, _, rfl, .inr (.inl (.inl s1)), ?_⟩
    rw [l1]
    exact g.here sk (.int _)
  · cases vp with
    | cons a b =>
    cases b
    obtain ⟨a, vs, rfl, _, s1, r1⟩ := a
    have l1 := r1.len
    refine call_len_seq pins s σ H _ us Q I rs ⟨_, _, rfl, .inl (SqL.of s1), ?_⟩
    rw [l1]
    exact g.here sk (.int _)
  · cases vp with
    | cons a b =>
    cases b with
    | cons b c =>
    cases c
    cases a
    cases b
    exact call_max2 hc pins s σ H _ us Q I rs ⟨_, _, rfl, g.here sk (.int _)⟩
  · cases vp with
    | cons a b =>
    cases b with
    | cons b c =>
    cases c
    cases a
    cases b
    exact call_min2 hc pins s σ H _ us Q I rs ⟨_, _, rfl, g.here sk (.int _)⟩
  · cases vp with
    | cons a b =>
    cases b
    cases a
    exact call_abs pins s σ H _ us Q I rs ⟨_, rfl, g.here sk (.int _)⟩
  · cases vp with
    | cons a b =>
    cases b
    cases a
    exact call_int1 pins s σ H _ us Q I rs (.inl ⟨_, rfl, g.here sk (.int _)⟩)
  · cases vp with
    | cons a b =>
    cases b
    cases a
    exact call_int1 pins s σ H _ us Q I rs (.inr ⟨_, rfl, g.here sk (.int _)⟩)
  · -- tuple
    cases vp with
    | cons a b =>
    cases b
    cases a with
    | tup f1 s1 r1 =>
    exact call_tuple_of pins s σ H _ us Q I rs ⟨_, _, rfl, .inr ⟨.inl (.inl s1), g.here sk (.tup f1 s1 r1)⟩⟩
  · cases vp with
    | cons a b =>
    cases b
    obtain ⟨a, vs, rfl, _, s1, r1⟩ := a
    exact call_tuple_of pins s σ H _ us Q I rs ⟨_, _, rfl, .inl ⟨SqL.of s1, g.tup sk r1⟩⟩
  · -- list
    cases vp with
    | cons a b =>
    cases b
    cases a with
    | tup f1 s1 r1 =>
    exact call_list_of pins s σ H _ us Q I rs ⟨_, _, rfl, .inr (.inl (.inl s1)), g.lst sk r1⟩
  · cases vp with
    | cons a b =>
    cases b
    obtain ⟨a, vs, rfl, _, s1, r1⟩ := a
    exact call_list_of pins s σ H _ us Q I rs ⟨_, _, rfl, .inl (SqL.of s1), g.lst sk r1⟩
  · cases vp with
    | cons a b =>
    cases b
    cases a with
    | scr h1 =>
    have s1 := h1.elim (fun q => q.2) fun q => q H
    exact call_list_of pins s σ H _ us Q I rs ⟨_, _, rfl, .inl s1, g.lst sk (rep_ints _)⟩
  · -- sum
    cases vp with
    | cons a b =>
    cases b
    obtain ⟨a, vs, rfl, _, s1, r1⟩ := a
    obtain ⟨ns, hn, e⟩ := Option.map_eq_some_iff.mp e
    have ev := ints_rep r1 hn
    subst ev
    refine cr_sum hc pins s σ H _ us Q I rs ⟨_, ns, rfl, SqL.of s1, ?_⟩
    rw [← sumI_eq]
    subst e
    exact g.here sk (.int _)
  · cases vp with
    | cons a b =>
    cases b
    obtain ⟨a, vs, rfl, _, s1, r1⟩ := a
    obtain ⟨ns, hn, e⟩ := Option.map_eq_some_iff.mp e
    have ev := bls_rep r1 hn
    subst ev
    refine cr_all hc pins s σ H _ us Q I rs ⟨_, ns, rfl, SqL.of s1, ?_⟩
    subst e
    exact g.here sk (.bl _)
  · cases vp with
    | cons a b =>
    cases b
    obtain ⟨a, vs, rfl, _, s1, r1⟩ := a
    obtain ⟨ns, hn, e⟩ := Option.map_eq_some_iff.mp e
    have ev := bls_rep r1 hn
    subst ev
    refine cr_any hc pins s σ H _ us Q I rs ⟨_, ns, rfl, SqL.of s1, ?_⟩
    subst e
    exact g.here sk (.bl _)
  · cases vp with
    | cons a b =>
    cases b
    obtain ⟨a, vs, rfl, hnr, s1, r1⟩ := a
    rename_i xs
    split at e
    · rename_i ns hn
      have ev := ints_rep r1 hn
      subst ev
      cases ns with
      | nil => cases e
      | cons n ns =>
        cases e
        obtain ⟨h1, h2⟩ := maxI_ok ns n
        refine cr_max hc pins s σ H _ us Q I rs ⟨_, n :: ns, rfl, SqL.of s1, by simp, fun m hm hy => ?_⟩
        have := hy _ h1
        have := h2 m hm
        have e : m = maxI n ns := by omega
        rw [e]
        exact g.here sk (.int _)
    · cases xs with
      | nil => cases e
      | cons x xs =>
        simp only [maxT] at e
        split at e
        · rename_i hal
          cases e
          obtain ⟨hok, hpw⟩ := alAll_of hal
          obtain ⟨its, rv, hl, hz⟩ := I.list (SqL.of s1)
          rw [Vals.ref1 rs]
          obtain ⟨as, hr⟩ := Dp.readsAll I (toDs (x :: xs)) vs its (RepL.dp 29 _ _ hok r1) rv
          have hdp := (okDs_lay 29 _ hok).2
          have hlen := r1.len
          refine PySem.W.max_list_data (I.ok.hd hc) hl.isList (x := toD x) (xs := toDs xs) (by simpa [toDs] using hr) (by have := alikeAll_of hal; rwa [toDs] at this) (by rw [toDs] at hdp; omega) fun i v h' tk bs hv hrd hk => ?_
          have hi : i < its.length := by
            have := (Array.getElem?_eq_some_iff.mp hv).1
            simpa using this
          have hlv := rv.length
          obtain ⟨w, hw⟩ : ∃ w, vs[i]? = some w := ⟨_, List.getElem?_eq_getElem (show i < vs.length by omega)⟩
          obtain ⟨u, hu', ru⟩ := rv.get hw
          have ev : v = u := by
            rw [List.getElem?_toArray, hu'] at hv
            exact (Option.some.inj hv).symm
          subst ev
          obtain ⟨p, hp, rp⟩ := r1.get hw
          have hpm := List.mem_of_getElem? hp
          have I2 : Inv X pins σ H { s with heap := h', toks := tk } := I.kept (t' := tk) hk
          obtain ⟨as2, hr2⟩ := Dp.reads I2 (toD p) w v (Rep.dp 29 p w (okDs_mem hok p hpm) rp) ru
          rw [maxD_toD hal] at hrd
          have hmm := maxF_mem xs x
          have e1 := PySem.W.alike_unique (toD p) (toD (maxF x xs)) v as2 bs (alike_eq _ _ (hpw p hpm _ hmm)) hr2 hrd
          have e2 := toD_inj p _ (hpw p hpm p hpm) (hpw _ hmm _ hmm) e1
          exact ⟨w, H, I2, ru, g.here sk (e2 ▸ rp)⟩
        · cases e
  · cases vp with
    | cons a b =>
    cases b
    obtain ⟨a, vs, rfl, hnr, s1, r1⟩ := a
    rename_i xs
    split at e
    · rename_i ns hn
      have ev := ints_rep r1 hn
      subst ev
      cases ns with
      | nil => cases e
      | cons n ns =>
        cases e
        obtain ⟨h1, h2⟩ := minI_ok ns n
        refine cr_min hc pins s σ H _ us Q I rs ⟨_, n :: ns, rfl, SqL.of s1, by simp, fun m hm hy => ?_⟩
        have := hy _ h1
        have := h2 m hm
        have e : m = minI n ns := by omega
        rw [e]
        exact g.here sk (.int _)
    · cases xs with
      | nil => cases e
      | cons x xs =>
        simp only [minT] at e
        split at e
        · rename_i hal
          cases e
          obtain ⟨hok, hpw⟩ := alAll_of hal
          obtain ⟨its, rv, hl, hz⟩ := I.list (SqL.of s1)
          rw [Vals.ref1 rs]
          obtain ⟨as, hr⟩ := Dp.readsAll I (toDs (x :: xs)) vs its (RepL.dp 29 _ _ hok r1) rv
          have hdp := (okDs_lay 29 _ hok).2
          have hlen := r1.len
          refine PySem.W.min_list_data (I.ok.hd hc) hl.isList (x := toD x) (xs := toDs xs) (by simpa [toDs] using hr) (by have := alikeAll_of hal; rwa [toDs] at this) (by rw [toDs] at hdp; omega) fun i v h' tk bs hv hrd hk => ?_
          have hi : i < its.length := by
            have := (Array.getElem?_eq_some_iff.mp hv).1
            simpa using this
          have hlv := rv.length
          obtain ⟨w, hw⟩ : ∃ w, vs[i]? = some w := ⟨_, List.getElem?_eq_getElem (show i < vs.length by omega)⟩
          obtain ⟨u, hu', ru⟩ := rv.get hw
          have ev : v = u := by
            rw [List.getElem?_toArray, hu'] at hv
            exact (Option.some.inj hv).symm
          subst ev
          obtain ⟨p, hp, rp⟩ := r1.get hw
          have hpm := List.mem_of_getElem? hp
          have I2 : Inv X pins σ H { s with heap := h', toks := tk } := I.kept (t' := tk) hk
          obtain ⟨as2, hr2⟩ := Dp.reads I2 (toD p) w v (Rep.dp 29 p w (okDs_mem hok p hpm) rp) ru
          rw [minD_toD hal] at hrd
          have hmm := minF_mem xs x
          have e1 := PySem.W.alike_unique (toD p) (toD (minF x xs)) v as2 bs (alike_eq _ _ (hpw p hpm _ hmm)) hr2 hrd
          have e2 := toD_inj p _ (hpw p hpm p hpm) (hpw _ hmm _ hmm) e1
          exact ⟨w, H, I2, ru, g.here sk (e2 ▸ rp)⟩
        · cases e
  · -- sorted
    cases vp with
    | cons a b =>
    cases b
    obtain ⟨a, vs, rfl, hnr, s1, r1⟩ := a
    rename_i xs
    unfold sortP at e
    split at e
    · rename_i hc2
      cases e
      obtain ⟨hso, hn⟩ := hc2
      have ll := lim_line
      unfold srtOk at hso
      rw [Bool.and_eq_true] at hso
      obtain ⟨hal, hk⟩ := hso
      obtain ⟨hok, hpw⟩ := alAll_of hal
      obtain ⟨its, rv, hl, hz⟩ := I.list (SqL.of s1)
      rw [Vals.ref1 rs]
      have hlen := r1.len
      have hlv := rv.length
      have hzm : ∀ z ∈ vs.zip xs, z.2 ∈ xs := fun z hz => (List.of_mem_zip hz).2
      have hmap : (vs.zip xs).map (fun z : V × PV => toD z.2) = xs.map toD := by
        have : (vs.zip xs).map (fun z : V × PV => toD z.2) = ((vs.zip xs).map Prod.snd).map toD := by rw [List.map_map]; rfl
        rw [this, List.map_snd_zip (by omega)]
      have er0 := each_vals rv hlen
      refine PySem.W.sorted_data (enc := fun z : V × PV => toD z.2) hl.isList er0 ?_ ?_ ?_ ?_ ?_ fun out ho eo => ?_
      · refine PySem.W.EachIs.of_zip er0.length fun q hq => ?_
        have hq1 := er0.zip q hq
        have hq2 := (List.of_mem_zip hq).2
        exact Dp.reads I (toD q.2.2) q.2.1 q.1 (Rep.dp 29 _ _ (okDs_mem hok _ (hzm _ hq2)) (repL_zip r1 _ hq2)) hq1
      · rw [hmap]
        intro d hd d' hd'
        obtain ⟨p, hp, rfl⟩ := List.mem_map.mp hd
        obtain ⟨q, hq, rfl⟩ := List.mem_map.mp hd'
        exact alike_eq p q (hpw p hp q hq)
      · rw [hmap]
        rcases Bool.or_eq_true_iff.mp hk with hk | hk
        · refine .inl fun d hd => ?_
          obtain ⟨p, hp, rfl⟩ := List.mem_map.mp hd
          have hp2 := List.all_eq_true.mp hk p hp
          cases p <;> simp only [nTup] at hp2 <;> try cases hp2
          rename_i ys
          cases ys with
          | nil => cases hp2
          | cons y ys => exact ⟨toD y, toDs ys, rfl⟩
        · refine .inr fun d hd => ?_
          obtain ⟨p, hp, rfl⟩ := List.mem_map.mp hd
          have hp2 := List.all_eq_true.mp hk p hp
          cases p <;> simp only [isI] at hp2 <;> try cases hp2
          exact ⟨by simp [toD], by simp [toD]⟩
      · rw [List.length_zip]; omega
      · intro z hz
        have := (okD_lay 29 z.2 (okDs_mem hok _ (hzm z hz))).2
        show X.A.units + 2 + (toD z.2).depth < cLine
        omega
      · have hperm := List.mergeSort_perm (vs.zip xs) (PySem.W.dataLe false fun z : V × PV => toD z.2)
        have hvo := vals_each eo
        have hrl : RepL X.K F ρ H (((vs.zip xs).mergeSort (PySem.W.dataLe false fun z : V × PV => toD z.2)).map (·.1)) (((vs.zip xs).mergeSort (PySem.W.dataLe false fun z : V × PV => toD z.2)).map (·.2)) := zip_repL fun z hz => repL_zip r1 z (hperm.mem_iff.mp hz)
        have hso : ((vs.zip xs).mergeSort (PySem.W.dataLe false fun z : V × PV => toD z.2)).map (·.2) = xs.mergeSort leB := by
          rw [List.map_mergeSort (s := leB) fun p hp q hq => ?_]
          · rw [show (fun z : V × PV => z.2) = Prod.snd from rfl, List.map_snd_zip (by omega)]
          · show (!PySem.W.dataLt (toD q.2) (toD p.2)) = (!ltB q.2 p.2)
            rw [lt_of_al hal q.2 (hzm q hq) p.2 (hzm p hp)]
        rw [hso] at hrl
        obtain ⟨n, hnl⟩ := sortedAll_at s.heap its out.toArray
        refine ⟨.ref (s.heap.objs.size + 1), upd H (s.heap.objs.size + 1) (.lst (((vs.zip xs).mergeSort (PySem.W.dataLe false fun z : V × PV => toD z.2)).map (·.1))), I.laid (t' := s.toks) (fun b o hb => sortedAll_old hb) (Nat.le_succ _) ⟨?_, out, n, hvo, hnl⟩, rfl, g.lst sk hrl _ (I.hok.fresh (Nat.le_succ _))⟩
        rw [List.length_map, List.length_mergeSort, List.length_zip]
        omega
    · cases e

  · -- sorted of a dict
    cases vp with
    | cons a b =>
    cases b
    obtain ⟨a, rfl, hnr, s1, ok⟩ := a
    rename_i kvs
    split at e
    · rename_i hso
      unfold sortP at e
      split at e
      · cases e
        have ll := lim_line
        rw [Vals.ref1 rs]
        refine sorted_dT hc hu I s1 ok hso fun zs D hz hs hD => ?_
        have hnz : ∀ b, b ∈ zs.map (·.1) → b ∉ ρ ∧ ∃ vs, H b = some (.tup vs) := fun b hb => by
          obtain ⟨z, hm, rfl⟩ := List.mem_map.mp hb
          obtain ⟨ns, _, h2⟩ := hz z hm
          refine ⟨fun m => ?_, _, h2⟩
          obtain ⟨j, hj, ej⟩ := List.getElem_of_mem m
          have hj2 : j < st.length := by rw [← sk.len]; exact hj
          exact (sk.at_ j z.1 st[j] (by rw [List.getElem?_eq_getElem hj, ej]) (List.getElem?_eq_getElem hj2)).ntup h2
        have ex : Ext F ρ H (fun b => F b ∨ b ∈ zs.map (·.1)) ρ H := ⟨fun _ f => .inl f, fun b f => f.elim .inl fun m => .inr (.inr (hnz b m)), fun _ _ h _ => h, fun _ h => h, fun _ _ h => h, fun _ h => .inl h⟩
        have sx : StoOk X.K (fun b => F b ∨ b ∈ zs.map (·.1)) ρ H st := ⟨sk.len, sk.nd, fun b m f => f.elim (sk.dis b m) fun z => (hnz b z).1 m, fun b f => f.elim (sk.trk b) fun z => ⟨_, (hnz b z).2.choose_spec⟩, fun k b p h1 h2 => (sk.at_ k b p h1 h2).mono ⟨fun _ f => .inl f, fun _ _ _ h => h, fun _ _ h => h⟩ fun _ h => h⟩
        have g2 : Giv X.K (fun b => F b ∨ b ∈ zs.map (·.1)) ρ H st Q (.lst ((kvs.map (·.1)).mergeSort leB)) := fun F' ρ' H' e' s' v rv => g F' ρ' H' (ex.trans e') s' v rv
        have rl : RepL X.K (fun b => F b ∨ b ∈ zs.map (·.1)) ρ H ((zs.map fun z => (V.ref z.1, z.2)).map (·.1)) ((zs.map fun z => (V.ref z.1, z.2)).map (·.2)) := zip_repL fun y hy => by
          obtain ⟨z, hm, rfl⟩ := List.mem_map.mp hy
          exact (hz z hm).rep (.inr (List.mem_map.mpr ⟨z, hm, rfl⟩))
        have e1 : (zs.map fun z => (V.ref z.1, z.2)).map (·.1) = zs.map fun z => V.ref z.1 := by rw [List.map_map]; rfl
        have e2 : (zs.map fun z => (V.ref z.1, z.2)).map (·.2) = (kvs.map (·.1)).mergeSort leB := by rw [List.map_map, ← hs]; rfl
        rw [e1, e2] at rl
        exact g2.lst sx rl D hD
      · cases e
    · cases e
  · -- sorted of a tuple
    cases vp with
    | cons a b =>
    cases b
    cases a with
    | tup f1 s1 r1 =>
    rename_i xs
    unfold sortP at e
    split at e
    · rename_i hc2
      cases e
      obtain ⟨hso, hn⟩ := hc2
      rw [Vals.ref1 rs]
      have hlen := r1.len
      refine sorted_tupA hc hu I (.inl (.inl s1)) r1 hso fun zs D hz hs hD => ?_
      have hrl : RepL X.K F ρ H (zs.map (·.1)) (zs.map (·.2)) := zip_repL fun z hm => repL_zip r1 z (hz z hm)
      rw [hs] at hrl
      exact g.lst sk hrl D hD
    · cases e
  · cases vp with
    | cons a b =>
    cases b
    cases a with
    | @tup ad vs _ f1 s1 r1 =>
    rename_i xs
    cases xs with
    | nil => cases e
    | cons x xs =>
      simp only [maxT] at e
      split at e
      · rename_i hal
        cases e
        obtain ⟨hok, hpw⟩ := alAll_of hal
        obtain ⟨its, rv, hl, hz⟩ := I.tuple (.inl (.inl s1))
        rw [Vals.ref1 rs]
        obtain ⟨as, hr⟩ := Dp.readsAll I (toDs (x :: xs)) vs its (RepL.dp 29 _ _ hok r1) rv
        have hdp := (okDs_lay 29 _ hok).2
        have hlen := r1.len
        refine PySem.W.max_tuple_data (I.ok.hd hc) hl (x := toD x) (xs := toDs xs) (by simpa [toDs] using hr) (by have := alikeAll_of hal; rwa [toDs] at this) (by rw [toDs] at hdp; omega) fun i v h' tk bs hv hrd hk => ?_
        have hi : i < its.length := by
          have := (Array.getElem?_eq_some_iff.mp hv).1
          simpa using this
        have hlv := rv.length
        obtain ⟨w, hw⟩ : ∃ w, vs[i]? = some w := ⟨_, List.getElem?_eq_getElem (show i < vs.length by omega)⟩
        obtain ⟨u, hu', ru⟩ := rv.get hw
        have ev : v = u := by
          rw [List.getElem?_toArray, hu'] at hv
          exact (Option.some.inj hv).symm
        subst ev
        obtain ⟨p, hp, rp⟩ := r1.get hw
        have hpm := List.mem_of_getElem? hp
        have I2 : Inv X pins σ H { s with heap := h', toks := tk } := I.kept (t' := tk) hk
        obtain ⟨as2, hr2⟩ := Dp.reads I2 (toD p) w v (Rep.dp 29 p w (okDs_mem hok p hpm) rp) ru
        rw [maxD_toD hal] at hrd
        have hmm := maxF_mem xs x
        have e1 := PySem.W.alike_unique (toD p) (toD (maxF x xs)) v as2 bs (alike_eq _ _ (hpw p hpm _ hmm)) hr2 hrd
        have e2 := toD_inj p _ (hpw p hpm p hpm) (hpw _ hmm _ hmm) e1
        exact ⟨w, H, I2, ru, g.here sk (e2 ▸ rp)⟩
      · cases e
  · cases vp with
    | cons a b =>
    cases b
    cases a with
    | @tup ad vs _ f1 s1 r1 =>
    rename_i xs
    cases xs with
    | nil => cases e
    | cons x xs =>
      simp only [minT] at e
      split at e
      · rename_i hal
        cases e
        obtain ⟨hok, hpw⟩ := alAll_of hal
        obtain ⟨its, rv, hl, hz⟩ := I.tuple (.inl (.inl s1))
        rw [Vals.ref1 rs]
        obtain ⟨as, hr⟩ := Dp.readsAll I (toDs (x :: xs)) vs its (RepL.dp 29 _ _ hok r1) rv
        have hdp := (okDs_lay 29 _ hok).2
        have hlen := r1.len
        refine PySem.W.min_tuple_data (I.ok.hd hc) hl (x := toD x) (xs := toDs xs) (by simpa [toDs] using hr) (by have := alikeAll_of hal; rwa [toDs] at this) (by rw [toDs] at hdp; omega) fun i v h' tk bs hv hrd hk => ?_
        have hi : i < its.length := by
          have := (Array.getElem?_eq_some_iff.mp hv).1
          simpa using this
        have hlv := rv.length
        obtain ⟨w, hw⟩ : ∃ w, vs[i]? = some w := ⟨_, List.getElem?_eq_getElem (show i < vs.length by omega)⟩
        obtain ⟨u, hu', ru⟩ := rv.get hw
        have ev : v = u := by
          rw [List.getElem?_toArray, hu'] at hv
          exact (Option.some.inj hv).symm
        subst ev
        obtain ⟨p, hp, rp⟩ := r1.get hw
        have hpm := List.mem_of_getElem? hp
        have I2 : Inv X pins σ H { s with heap := h', toks := tk } := I.kept (t' := tk) hk
        obtain ⟨as2, hr2⟩ := Dp.reads I2 (toD p) w v (Rep.dp 29 p w (okDs_mem hok p hpm) rp) ru
        rw [minD_toD hal] at hrd
        have hmm := minF_mem xs x
        have e1 := PySem.W.alike_unique (toD p) (toD (minF x xs)) v as2 bs (alike_eq _ _ (hpw p hpm _ hmm)) hr2 hrd
        have e2 := toD_inj p _ (hpw p hpm p hpm) (hpw _ hmm _ hmm) e1
        exact ⟨w, H, I2, ru, g.here sk (e2 ▸ rp)⟩
      · cases e

def Ty.nm : Ty → String
  | .int => "int" | .bool => "bool" | .str => "str" | .tuple => "tuple" | .list => "list"
theorem sqT_tyX {K : PySem.W.Frag} {H : Hp} {a : Addr} {vs : List V} (h : SqT K H a vs) : TyX K H (.ref a) (.type "tuple") := by
  rcases h with (h | ⟨o, h⟩) | ⟨o, its, n, hk, hc, _⟩
  · exact .base (.tup h)
  · exact .fTuple h
  · exact .kTuple hk hc
theorem op_isi (t : Ty) : CallR X (.builtin "isinstance") (fun xs H Q => ∃ x F ρ st p b, xs = [x, .ty t.nm] ∧ StoOk X.K F ρ H st ∧ Vw X.K F ρ H x p ∧ isiP p t = some b ∧ Giv X.K F ρ H st Q (.bl b)) := by
  intro pins s σ H xs us Q I rs h
  obtain ⟨x, F, ρ, st, p, b, rfl, sk, vp, e, g⟩ := h
  have q := g.here sk (.bl b)
  have key : ∀ T : String, TyX X.K H x (.type T) → kitB T t.nm = some b → wpAny (model X.prog X.w) X.A (call (.builtin "isinstance") us) (EP X pins σ Q) X.xe s := fun T ty k =>
    call_isi pins s σ H _ us Q I rs ⟨x, _, _, _, b, rfl, .ty _, ty, kit_ty k, q⟩
  cases p with
  | non => cases vp; exact key _ (.base .non) (by cases t <;> (simp only [isiP] at e; cases e; decide +kernel))
  | bl c => cases vp; exact key _ (.base (.bl _)) (by cases t <;> (simp only [isiP] at e; cases e; decide +kernel))
  | int c => cases vp; exact key _ (.base (.int _)) (by cases t <;> (simp only [isiP] at e; cases e; decide +kernel))
  | str c => cases vp; exact key _ (.base (.str _)) (by cases t <;> (simp only [isiP] at e; cases e; decide +kernel))
  | tup c =>
    cases vp with
    | tup f1 s1 r1 => exact key _ (sqT_tyX (.inl (.inl s1))) (by cases t <;> (simp only [isiP] at e; cases e; decide +kernel))
  | lst c =>
    obtain ⟨a, vs, rfl, _, s1, r1⟩ := vp
    exact key _ (.base (.lst s1)) (by cases t <;> (simp only [isiP] at e; cases e; decide +kernel))
  | cel c => cases t <;> (simp only [isiP] at e; cases e)
  | scr c => cases t <;> (simp only [isiP] at e; cases e)
  | exc c d => cases t <;> (simp only [isiP] at e; cases e)
  | glb c => cases t <;> (simp only [isiP] at e; cases e)
  | dct c => cases t <;> (simp only [isiP] at e; cases e)
  | set c => cases t <;> (simp only [isiP] at e; cases e)
end
end Pv

/-! P4: the machine's syntax against the small one; expressions. -/
namespace Pv
open PySem PySem.Spec PyProof.Rows L2

/-- what a text is read by: the slots' names, the scope, which cells may be stored, the defs, the module's ints -/
structure MC where
  N : List Str
  sc : Scope
  fc : Str → Bool
  ds : List Str
  gi : List (Str × Int)
def visB (sc : Scope) (x : Str) : Bool := match sc.names.lookup x with
  | some .local => true
  | some .cell => true
  | some .free => true
  | _ => false
def locB (m : MC) (x : Str) : Bool := match m.sc.names.lookup x with
  | some .local => true
  | some .cell => m.fc x
  | _ => false
def glB (m : MC) (x : Str) : Bool := match m.sc.names.lookup x with
  | some .globalImplicit => !(x == ("__debug__" : Str)) && !(x == ("__name__" : Str))
  | _ => false
def okN (m : MC) (i : Nat) (x : Str) : Bool := decide (m.N[i]? = some x) && visB m.sc x && !(x == ("__debug__" : Str)) && !(x == ("__classdict__" : Str))
def isPl : Expr → Bool
  | .Slice _ _ _ _ => false
  | .Starred _ _ => false
  | .Set _ _ _ => false
  | _ => true
/-- a test whose truth is its value's -/
def leafT : Expr → Bool
  | .UnaryOp _ _ _ => false
  | .BoolOp _ _ _ => false
  | .IfExp _ _ _ _ => false
  | .Compare _ _ _ _ => false
  | _ => true
def bfN : Bf → Str
  | .len => "len" | .abs => "abs" | .int => "int" | .tuple => "tuple" | .list => "list" | .sum => "sum" | .min => "min" | .max => "max"
  | .all => "all" | .any => "any" | .sorted => "sorted" | .set => "set" | .dict => "dict" | .str => "str" | .bool => "bool"
def Es.len : Es → Nat
  | .nil => 0
  | .cons _ r => r.len + 1
def E.esc : E → Bool
  | .own _ => false
  | _ => true
def Es.esc : Es → Bool
  | .nil => true
  | .cons e r => e.esc && r.esc
mutual
def G.ix : G → List Nat
  | .name i => [i]
  | .tup gs => gs.ix
def Gs.ix : Gs → List Nat
  | .nil => []
  | .cons g r => g.ix ++ r.ix
end
def MC.blk (m : MC) (scope : Scope) : MC := { m with sc := L2.relS scope m.sc, fc := fun x => scope.names.lookup x == some .cell }
mutual
def mtG (m : MC) : G → Expr → Bool
  | .name i, .Name x _ => decide (m.N[i]? = some x) && locB m x
  | .tup gs, .Tuple es _ _ => mtGs m gs es
  | _, _ => false
def mtGs (m : MC) : Gs → List Expr → Bool
  | .nil, [] => true
  | .cons g r, e :: es => mtG m g e && mtGs m r es
  | _, _ => false
end
def ownOf (m : MC) (vs : List Nat) : List (Str × Nat) := vs.map fun i => (m.N.getD i (Str.ofString ""), i)
def I.esc : I → Bool
  | .val e => e.esc
  | .r1 _ => true
  | .r2 _ _ => true
  | .r3 _ _ _ => true
  | .zip a b => a.esc && b.esc
  | .enum a => a.esc
def subIx (is vs : List Nat) : Bool := is.all fun i => vs.contains i
mutual
def mtE : MC → E → Expr → Bool
  | m, .var i, .Name x _ => okN m i x
  | m, .own i, .Name x _ => okN m i x
  | _, .non, .Constant .none _ _ => true
  | _, .bl b, .Constant (.bool c) _ _ => b == c
  | _, .int i, .Constant (.int j) _ _ => i == j
  | _, .str x, .Constant (.str y) _ _ => x == y
  | m, .gint x i, .Name y _ => x == y && glB m x && m.gi.any fun p => p.1 == x && p.2 == i
  | m, .bin o a b, .BinOp l op r _ => opM o == op && mtE m a l && mtE m b r
  | m, .neg a, .UnaryOp .USub r _ => mtE m a r
  | m, .cmp o a b, .Compare l [op] [r] _ => copM o == op && !behindInMarks op r && mtE m a l && mtE m b r
  | m, .cmp2 o p a b c, .Compare l [op, oq] [r, t] _ => copM o == op && copM p == oq && !lastMarks [op, oq] [r, t] && mtE m a l && mtE m b r && mtE m c t
  | m, .bo isAnd as, .BoolOp op es _ => op == (if isAnd then .And else .Or) && decide (0 < as.len) && mtEs m as es && as.esc
  | m, .not a, .UnaryOp .Not r _ => mtE m a r
  | m, .ite c a b, .IfExp t x y _ => mtT m c t && mtE m a x && mtE m b y && a.esc && b.esc
  | m, .tup as, .Tuple es _ _ => mtEs m as es && as.esc && decide (as.len ≤ 1000)
  | m, .lst as, .List es _ => mtEs m as es && as.esc && decide (as.len ≤ 1000)
  | m, .ix a b, .Subscript l r _ => isPl r && mtE m a l && mtE m b r
  | m, .sl a lo hi, .Subscript l (.Slice l1 h1 none _) _ => mtE m a l && mtOe m lo l1 && mtOe m hi h1
  | m, .rev a, .Subscript l (.Slice none none (some (.UnaryOp .USub (.Constant (.int 1) _ _) _)) _) _ => mtE m a l
  | m, .bc f as, .Call (.Name x _) es [] _ => x == bfN f && glB m x && decide (0 < as.len) && mtEs m as es
  | m, .isi a t, .Call (.Name x _) [l, .Name y _] [] _ => x == ("isinstance" : Str) && glB m x && y == Str.ofString t.nm && glB m y && isPl l && mtE m a l
  | m, .call f as, .Call (.Name x _) es [] _ => decide (m.ds[f]? = some x) && glB m x && mtEs m as es && as.esc
  | m, .rg1 t a, .Call (.Name x _) [.Call (.Name y _) [l] [] _] [] _ => x == bfN (if t then .tuple else .list) && y == ("range" : Str) && glB m x && glB m y && isPl l && mtE m a l
  | m, .rg2 t a b, .Call (.Name x _) [.Call (.Name y _) [l, r] [] _] [] _ => x == bfN (if t then .tuple else .list) && y == ("range" : Str) && glB m x && glB m y && isPl l && isPl r && mtE m a l && mtE m b r
  | m, .rpl a b, .BinOp l .Mult r _ => mtE m a l && mtE m b r
  | m, .lof a, .Call (.Name x _) [l] [] _ => x == bfN .list && glB m x && isPl l && mtE m a l
  | m, .lset a, .Call (.Name x _) [.Call (.Name y _) [l] [] _] [] _ => x == bfN .len && y == bfN .set && glB m x && glB m y && isPl l && mtE m a l
  | _, .dnew, .Dict [] [] _ => true
  | m, .dlit as v, .Dict [some (.Tuple es _ _)] [y] _ => mtEs m as es && as.esc && decide (as.len ≤ 1000) && mtE m v y && v.esc
  | m, .compD i elt g cs vs, .ListComp elt1 [⟨tg, .Name x _, ifs, asy⟩] scope _ => asy == 0 && okN m i x && L2.blkC m.N m.sc scope (ownOf m vs) && subIx g.ix vs && mtG (m.blk scope) g tg && mtTs (m.blk scope) cs ifs && mtE (m.blk scope) elt elt1 && elt.esc
  | m, .cel a, x => mtE m a x && decide (a.kind = .fr)
  | m, .comp elt g it cs vs, .ListComp elt1 [⟨tg, iter, ifs, asy⟩] scope _ => asy == 0 && L2.blkC m.N m.sc scope (ownOf m vs) && subIx g.ix vs && mtG (m.blk scope) g tg && isPl iter && mtI m it tg iter && mtTs (m.blk scope) cs ifs && mtE (m.blk scope) elt elt1 && elt.esc
  | m, .comp2 elt g it cs g1 it1 cs1 vs vs1, .ListComp elt1 [⟨tg, iter, ifs, asy⟩, ⟨tg1, iter1, ifs1, asy1⟩] scope _ => asy == 0 && asy1 == 0 && L2.blkC m.N m.sc scope (ownOf m vs) && subIx g.ix vs && subIx g1.ix vs1 && subIx vs1 vs &&
      mtG (m.blk scope) g tg && mtG (m.blk scope) g1 tg1 && isPl iter && isPl iter1 && mtI m it tg iter && mtI (m.blk scope) it1 tg1 iter1 && mtTs (m.blk scope) cs ifs && mtTs (m.blk scope) cs1 ifs1 && mtE (m.blk scope) elt elt1 && elt.esc && it1.esc
  | _, _, _ => false
def mtEs : MC → Es → List Expr → Bool
  | _, .nil, [] => true
  | m, .cons e r, x :: xs => isPl x && mtE m e x && mtEs m r xs
  | _, _, _ => false
def mtOe : MC → Oe → Option Expr → Bool
  | _, .no, none => true
  | m, .yes e, some x => mtE m e x
  | _, _, _ => false
def mtT : MC → T → Expr → Bool
  | m, .e a, x => leafT x && mtE m a x
  | m, .cmp o a b, .Compare l [op] [r] _ => copM o == op && !behindInMarks op r && mtE m a l && mtE m b r
  | m, .cmp2 o p a b c, .Compare l [op, oq] [r, t] _ => copM o == op && copM p == oq && !lastMarks [op, oq] [r, t] && mtE m a l && mtE m b r && mtE m c t
  | m, .bo isAnd ts, .BoolOp op es _ => op == (if isAnd then .And else .Or) && mtBo m ts es
  | m, .not t, .UnaryOp .Not r _ => mtT m t r
  | _, _, _ => false
def mtBo : MC → Ts → List Expr → Bool
  | m, .cons t .nil, [x] => mtT m t x
  | m, .cons t (.cons u r), x :: y :: xs => mtT m t x && mtBo m (.cons u r) (y :: xs)
  | _, _, _ => false
def mtTs : MC → Ts → List Expr → Bool
  | _, .nil, [] => true
  | m, .cons t .nil, [x] => mtT m t x
  | _, _, _ => false
def mtI : MC → I → Expr → Expr → Bool
  | m, .val e, _, x => mtE m e x
  | m, .r1 a, _, .Call (.Name x _) [l] [] _ => x == ("range" : Str) && glB m x && isPl l && mtE m a l
  | m, .r2 a b, _, .Call (.Name x _) [l, r] [] _ => x == ("range" : Str) && glB m x && isPl l && isPl r && mtE m a l && mtE m b r
  | m, .r3 a b c, _, .Call (.Name x _) [l, r, t] [] _ => x == ("range" : Str) && glB m x && isPl l && isPl r && isPl t && mtE m a l && mtE m b r && mtE m c t
  | m, .zip a b, .Tuple _ _ _, .Call (.Name x _) [l, r] [] _ => x == ("zip" : Str) && glB m x && isPl l && isPl r && mtE m a l && mtE m b r
  | m, .enum a, .Tuple _ _ _, .Call (.Name x _) [l] [] _ => x == ("enumerate" : Str) && glB m x && isPl l && mtE m a l
  | _, _, _, _ => false
end
end Pv

/-! P5: readings of the small syntax; each construct keeps its own. -/
namespace Pv
open PySem PySem.Spec PyProof.Rows L2

/-- a def's promise by what it does to pure values -/
def spOf (K : PySem.W.Frag) (np : Nat) (φ : List PV → M PV) : Sp := fun vs H Q E => vs.length = np ∧ ∃ F ρ st ps, RepL K F ρ H vs ps ∧ StoOk K F ρ H st ∧
  PostG K (fun c d _ H => E c d H) F ρ H [] (GV K .pl H Q) (φ ps st)
/-- a program's world -/
structure Cq where
  P : Program
  w : World
  K : PySem.W.Frag
  mg : Str → Option Value
  base : Heap
  ds : List Def
  ad : Nat → Addr
  fd : Nat → FuncData
  ps : Nat → List Str
  lvl : Nat
  Φ : Nat → List PV → M PV
  gi : List (Str × Int)
def bnames : List Str := [Bf.len, Bf.abs, Bf.int, Bf.tuple, Bf.list, Bf.sum, Bf.min, Bf.max, Bf.all, Bf.any, Bf.sorted, Bf.set, Bf.dict, Bf.str, Bf.bool].map bfN ++ ([Str.ofString "range", Str.ofString "zip", Str.ofString "enumerate", Str.ofString "isinstance"] : List Str)
structure CqOk (C : Cq) : Prop where
  fn : ∀ f d, C.ds[f]? = some d → FnOk C.P C.w C.K C.mg C.base (L2.CX C.P C.w) C.lvl (C.ad f) (C.fd f) (C.ps f) (spOf C.K d.np (C.Φ f)) ∧ C.mg d.name = some (.ref (C.ad f)) ∧
    PySem.W.keepIn C.K (.ref (C.ad f)) = true ∧ Binds C.K (C.fd f) (C.ps f) [] ∧ ∀ ps st, ps.length ≠ d.np → C.Φ f ps st = .bad
  bt : ∀ x ∈ bnames, C.mg x = none
  gi : ∀ p ∈ C.gi, ∃ t, C.mg p.1 = some (.int p.2 t)
structure XOk (C : Cq) (m : MC) (W : WX) (X : Cx) : Prop where
  prog : X.prog = C.P
  w : X.w = C.w
  K : X.K = C.K
  mg : X.mg = C.mg
  base : X.base = C.base
  N : X.N = m.N
  nd : m.N.Nodup
  sc : X.env.scope = m.sc
  calm : X.calm = true
  room : Room C.lvl X.A
  fc : ∀ x, m.fc x = true → X.fn x = true
  tk : Takes X W
  ds : m.ds = C.ds.map (·.name)
  gi : m.gi = C.gi
section
variable {C : Cq}
/-- the reading of an expression -/
def RdE (C : Cq) (W : WX) (e : E) : TE := fun σ H Q => ∃ F ρ env st, EnvOk C.K F ρ H env σ ∧ StoOk C.K F ρ H st ∧ PostG C.K W F ρ H σ (GV C.K e.kind H Q) (evE C.Φ e env st)
/-- of one whose value is kept -/
def RdX (C : Cq) (W : WX) (e : E) : TE := fun σ H Q => ∃ F ρ env st, EnvOk C.K F ρ H env σ ∧ StoOk C.K F ρ H st ∧ PostG C.K W F ρ H σ (GV C.K .pl H Q) (evE C.Φ e env st)
def RdT (C : Cq) (W : WX) (t : T) : TT := fun σ H Q => ∃ F ρ env st, EnvOk C.K F ρ H env σ ∧ StoOk C.K F ρ H st ∧ PostG C.K W F ρ H σ (fun _ _ H' b => Q b H') (evT C.Φ t env st)
def RdTs (C : Cq) (W : WX) (t : Ts) : TT := fun σ H Q => ∃ F ρ env st, EnvOk C.K F ρ H env σ ∧ StoOk C.K F ρ H st ∧ PostG C.K W F ρ H σ (fun _ _ H' b => Q b H') (evTs C.Φ t env st)
def RdBoT (C : Cq) (W : WX) (a : Bool) (t : Ts) : TT := fun σ H Q => ∃ F ρ env st, EnvOk C.K F ρ H env σ ∧ StoOk C.K F ρ H st ∧ PostG C.K W F ρ H σ (fun _ _ H' b => Q b H') (evBoT C.Φ a t env st)
def RdBo (C : Cq) (W : WX) (a : Bool) (as : Es) : TE := fun σ H Q => ∃ F ρ env st, EnvOk C.K F ρ H env σ ∧ StoOk C.K F ρ H st ∧ PostG C.K W F ρ H σ (GV C.K .pl H Q) (evBo C.Φ a as env st)
/-- of arguments, looked at; kept -/
def RdV (C : Cq) (W : WX) (as : Es) : TA := fun σ H Q => ∃ F ρ env st, EnvOk C.K F ρ H env σ ∧ StoOk C.K F ρ H st ∧ PostG C.K W F ρ H σ (fun F' ρ' H' ps => ∀ vs, VwL C.K F' ρ' H' vs ps → Q vs H') (evEs C.Φ as env st)
def RdL (C : Cq) (W : WX) (as : Es) : TA := fun σ H Q => ∃ F ρ env st, EnvOk C.K F ρ H env σ ∧ StoOk C.K F ρ H st ∧ PostG C.K W F ρ H σ (fun F' ρ' H' ps => ∀ vs, RepL C.K F' ρ' H' vs ps → Q vs H') (evEs C.Φ as env st)
def RdO (C : Cq) (W : WX) (o : Oe) : TO := fun σ H Q => ∃ F ρ env st, EnvOk C.K F ρ H env σ ∧ StoOk C.K F ρ H st ∧ PostG C.K W F ρ H σ (fun F' ρ' H' i => Q i H') (evOe C.Φ o env st)

theorem PEimp {X : Cx} {e : Expr} {t t' : TE} (h : PE X e t) (i : ∀ σ H Q, t' σ H Q → t σ H Q) : PE X e t' := ⟨fun pins s σ H Q I q => h.run pins s σ H Q I (i σ H Q q)⟩
theorem PTimp {X : Cx} {e : Expr} {t t' : TT} (h : PT X e t) (i : ∀ σ H Q, t' σ H Q → t σ H Q) : PT X e t' := ⟨fun pins s σ H Q I q => h.run pins s σ H Q I (i σ H Q q)⟩
theorem PWimp {X : Cx} {e : Expr} {t t' : TT} (h : PW X e t) (i : ∀ σ H Q, t' σ H Q → t σ H Q) : PW X e t' := ⟨fun wh pins s σ H Q I q => h.run wh pins s σ H Q I (i σ H Q q)⟩
theorem PAimp {X : Cx} {e : List Expr} {t t' : TA} (h : PA X e t) (i : ∀ σ H Q, t' σ H Q → t σ H Q) : PA X e t' := ⟨fun pos pins s σ H Q I q => h.run pos pins s σ H Q I (i σ H Q q)⟩

section
variable {W : WX} {F F1 : Addr → Prop} {ρ ρ1 : List Addr} {H H1 : Hp} {σ : L2.St} {st st1 : Sto} {Q : VK} {kd : Kd}
theorem giv_of {K : PySem.W.Frag} {r : PV} (h : PostG K W F ρ H σ (GV K .pl H1 Q) (Out.ok r st)) : Giv K F ρ H st Q r := fun F' ρ' H' e s v rv => h F' ρ' H' e s v rv
/-- a part's value as the whole's -/
theorem post_tail {K : PySem.W.Frag} {o : Out PV} (nk : kd ≠ .ow) (h : PostG K W F ρ H σ (GV K .pl H1 Q) o) : PostG K W F ρ H σ (GV K kd H Q) o := by
  cases o with
  | ok r st =>
    intro F' ρ' H' e s v rv
    obtain ⟨F'', e2, s2, r2, _⟩ := Res.esc rv nk e s
    exact h F'' ρ' H' e2 s2 v r2
  | exn x st => exact h
  | bad => exact h
theorem esc_kind {e : E} (h : e.esc = true) : e.kind ≠ .ow := by
  cases e <;> first | (intro z; cases z; done) | (rename_i t _; cases t <;> (intro z; cases z; done)) | (rename_i t _ _; cases t <;> (intro z; cases z; done)) | cases h
theorem rdX {e : E} (h : e.esc = true) {σ : L2.St} {H : Hp} {Q : VK} (q : RdX C W e σ H Q) : RdE C W e σ H Q := by
  obtain ⟨F, ρ, env, st, hE, hS, p⟩ := q
  exact ⟨F, ρ, env, st, hE, hS, post_tail (esc_kind h) p⟩
theorem pe_X {X : Cx} {x : Expr} {e : E} (h : PE X x (RdE C W e)) (k : e.esc = true) : PE X x (RdX C W e) := PEimp h fun _ _ _ q => rdX k q
end

variable {m : MC} {W : WX} {X : Cx}

/-! ### names, constants -/
theorem vis_of {sc : Scope} {x : Str} (h : visB sc x = true) : Vis sc x := by
  unfold visB at h
  unfold Vis
  split at h
  · exact .inl (by assumption)
  · exact .inr (.inl (by assumption))
  · exact .inr (.inr (by assumption))
  · cases h
theorem beqF {x y : Str} (h : (!(x == y)) = true) : (x == y) = false := by simpa using h
theorem okN_of (O : XOk C m W X) {i : Nat} {x : Str} (h : okN m i x = true) : X.N[i]? = some x ∧ Vis X.env.scope x ∧ (x == ("__debug__" : Str)) = false ∧ (x == ("__classdict__" : Str)) = false := by
  unfold okN at h
  simp only [Bool.and_eq_true, decide_eq_true_eq] at h
  obtain ⟨⟨⟨h1, h2⟩, h3⟩, h4⟩ := h
  exact ⟨by rw [O.N]; exact h1, by rw [O.sc]; exact vis_of h2, beqF h3, beqF h4⟩
theorem rd_var (O : XOk C m W X) {i : Nat} {x : Str} {pos : Pos} (h : okN m i x = true) : PE X (.Name x pos) (RdE C W (.var i)) := by
  obtain ⟨h1, h2, h3, h4⟩ := okN_of O h
  refine PEimp (pe_var h1 h2 h3 h4) fun σ H Q ⟨F, ρ, env, st, hE, hS, p⟩ => ?_
  simp only [evE] at p
  obtain ⟨r, e, g⟩ := PostG.opt p
  cases q : look env i with
  | val r' =>
    rw [q] at e
    cases e
    obtain ⟨v, e1, rv⟩ := hE.val i _ q
    exact ⟨v, e1, g F ρ H Ext.refl hS v rv⟩
  | no => rw [q] at e; cases e
  | own r' => rw [q] at e; cases e
theorem rd_own (O : XOk C m W X) {i : Nat} {x : Str} {pos : Pos} (h : okN m i x = true) : PE X (.Name x pos) (RdE C W (.own i)) := by
  obtain ⟨h1, h2, h3, h4⟩ := okN_of O h
  refine PEimp (pe_var h1 h2 h3 h4) fun σ H Q ⟨F, ρ, env, st, hE, hS, p⟩ => ?_
  simp only [evE] at p
  obtain ⟨r, e, g⟩ := PostG.opt p
  cases q : look env i with
  | own r' =>
    rw [q] at e
    cases e
    obtain ⟨a, e1, nf, nr, c⟩ := hE.own i _ q
    refine ⟨.ref a, e1, g F ρ H Ext.refl hS _ ?_⟩
    cases r with
    | lst ps =>
      obtain ⟨vs, h1, h2⟩ := c
      exact ⟨a, vs, rfl, nr, h1, h2⟩
    | dct kvs => exact ⟨a, rfl, nr, .inl c.1, c.2⟩
    | _ => exact c.elim
  | no => rw [q] at e; cases e
  | val r' => rw [q] at e; cases e
theorem rd_c {x : Expr} {e : E} {v : V} {p : PV} (h : PE X x (tC v)) (hk : e.kind = .pl) (he : ∀ env st, evE C.Φ e env st = .ok p st) (r : ∀ F ρ H, Rep C.K F ρ H v p) : PE X x (RdE C W e) :=
  PEimp h fun σ H Q ⟨F, ρ, env, st, hE, hS, q⟩ => by
    rw [he, hk] at q
    exact q F ρ H Ext.refl hS v (r F ρ H)
theorem gl_of (O : XOk C m W X) {x : Str} (h : glB m x = true) : Gl X x ∧ (x == ("__debug__" : Str)) = false ∧ x ≠ ("__name__" : Str) := by
  unfold glB at h
  split at h
  · rename_i e
    rw [Bool.and_eq_true] at h
    refine ⟨?_, beqF h.1, fun z => ?_⟩
    · show X.env.scope.names.lookup x = _
      rw [O.sc]; exact e
    · have := h.2
      rw [z] at this
      simp at this
  · cases h
theorem rd_gint (CO : CqOk C) (O : XOk C m W X) {x y : Str} {i : Int} {pos : Pos} (h : (x == y && glB m x && m.gi.any fun p => p.1 == x && p.2 == i) = true) : PE X (.Name y pos) (RdE C W (.gint x i)) := by
  simp only [Bool.and_eq_true, List.any_eq_true] at h
  obtain ⟨⟨h1, h2⟩, p, hp, h3, h4⟩ := h
  have e1 : x = y := by simpa using h1
  subst e1
  have e2 : p.1 = x := by simpa using h3
  have e3 : p.2 = i := by simpa using h4
  obtain ⟨g1, g2, g3⟩ := gl_of O h2
  rw [O.gi] at hp
  obtain ⟨t, ht⟩ := CO.gi p hp
  rw [e2, e3, ← O.mg] at ht
  exact rd_c (pe_glob (v := V.int i) g1 ht ⟨t, rfl⟩ g2) rfl (fun _ _ => rfl) fun _ _ _ => .int i

/-! ### operators -/
theorem rd_bin (O : XOk C m W X) {o : Op} {a b : E} {l r : Expr} {pos : Pos} (ha : PE X l (RdE C W a)) (hb : PE X r (RdE C W b)) : PE X (.BinOp l (opM o) r pos) (RdE C W (.bin o a b)) := by
  refine PEimp (pe_op (op_bin o) ha hb) fun σ H Q ⟨F, ρ, env, st, hE, hS, p⟩ => ?_
  simp only [evE] at p
  refine ⟨F, ρ, env, st, hE, hS, PostG.bnd p fun x st1 F1 ρ1 H1 e1 s1 p1 v1 r1 => ?_⟩
  refine ⟨F1, ρ1, env, st1, hE.mono e1 hS.dis, s1, PostG.bnd p1 fun y st2 F2 ρ2 H2 e2 s2 p2 v2 r2 => ?_⟩
  obtain ⟨r, er, g⟩ := PostG.opt p2
  rw [O.K]
  exact ⟨F2, ρ2, st2, x, y, r, s2, (r1.vw s1.dis).mono e2 s1.dis, r2.vw s2.dis, er, fun F' ρ' H' e s v rv => g F' ρ' H' e s v rv⟩
theorem rd_neg (O : XOk C m W X) {a : E} {l : Expr} {pos : Pos} (ha : PE X l (RdE C W a)) : PE X (.UnaryOp .USub l pos) (RdE C W (.neg a)) := by
  refine PEimp (pe_un op_neg ha) fun σ H Q ⟨F, ρ, env, st, hE, hS, p⟩ => ?_
  simp only [evE] at p
  refine ⟨F, ρ, env, st, hE, hS, PostG.bnd p fun x st1 F1 ρ1 H1 e1 s1 p1 v1 r1 => ?_⟩
  obtain ⟨r, er, g⟩ := PostG.opt p1
  rw [O.K]
  exact ⟨F1, ρ1, st1, x, r, s1, r1.vw s1.dis, er, fun F' ρ' H' e s v rv => g F' ρ' H' e s v rv⟩
theorem units_of (O : XOk C m W X) : X.A.units + 65 < cLine := by have := O.room.un; omega
theorem rd_cmp (O : XOk C m W X) {o : Cop} {a b : E} {l r : Expr} {pos : Pos} (ha : PE X l (RdE C W a)) (hb : PE X r (RdE C W b)) (hm : behindInMarks (copM o) r = false) : PE X (.Compare l [copM o] [r] pos) (RdE C W (.cmp o a b)) := by
  refine PEimp (pe_cmpR (op_cop (units_of O) o) ha hb hm) fun σ H Q ⟨F, ρ, env, st, hE, hS, p⟩ => ?_
  simp only [evE] at p
  refine ⟨F, ρ, env, st, hE, hS, PostG.bnd p fun x st1 F1 ρ1 H1 e1 s1 p1 v1 r1 => ?_⟩
  refine ⟨F1, ρ1, env, st1, hE.mono e1 hS.dis, s1, PostG.bnd p1 fun y st2 F2 ρ2 H2 e2 s2 p2 v2 r2 => ?_⟩
  obtain ⟨r, er, g⟩ := PostG.opt p2
  rw [O.K]
  exact ⟨F2, ρ2, st2, x, y, r, s2, (r1.vw s1.dis).mono e2 s1.dis, r2.vw s2.dis, er, fun F' ρ' H' e s v rv => g F' ρ' H' e s v rv⟩
theorem rd_tcmp (O : XOk C m W X) {o : Cop} {a b : E} {l r : Expr} {pos : Pos} (ha : PE X l (RdE C W a)) (hb : PE X r (RdE C W b)) (hm : behindInMarks (copM o) r = false) : PT X (.Compare l [copM o] [r] pos) (RdT C W (.cmp o a b)) := by
  refine PTimp (pt_cmpR (op_cop (units_of O) o) ha hb hm) fun σ H Q ⟨F, ρ, env, st, hE, hS, p⟩ => ?_
  simp only [evT] at p
  refine ⟨F, ρ, env, st, hE, hS, PostG.bnd p fun x st1 F1 ρ1 H1 e1 s1 p1 v1 r1 => ?_⟩
  refine ⟨F1, ρ1, env, st1, hE.mono e1 hS.dis, s1, PostG.bnd p1 fun y st2 F2 ρ2 H2 e2 s2 p2 v2 r2 => ?_⟩
  cases hz : cmpP o x y with
  | none => rw [hz] at p2; exact p2.elim
  | some z =>
    rw [hz] at p2
    have p3 : PostG C.K W F2 ρ2 H2 σ (fun _ _ H' b => Q b H') (M.opt (truthP z) st2) := p2
    obtain ⟨k, ek, g⟩ := PostG.opt p3
    rw [O.K]
    refine ⟨F2, ρ2, st2, x, y, z, s2, (r1.vw s1.dis).mono e2 s1.dis, r2.vw s2.dis, hz, fun F' ρ' H' e s v rv => ?_⟩
    cases z <;> simp only [truthP] at ek <;> try cases ek
    cases rv
    exact ⟨_, rfl, g F' ρ' H' e s⟩
/-- the chain's first answer -/
theorem chain_go {α : Type} {z : PV} {f : Unit → M α} {g : M α} {K : PySem.W.Frag} {F : Addr → Prop} {ρ : List Addr} {H : Hp} {σ : L2.St} {st : Sto} {G : (Addr → Prop) → List Addr → Hp → α → Prop}
    (h : PostG K W F ρ H σ G ((match z with | .bl true => f () | .bl false => g | _ => M.bad) st)) : (z = .bl true ∧ PostG K W F ρ H σ G (f () st)) ∨ (z = .bl false ∧ PostG K W F ρ H σ G (g st)) := by
  cases z with
  | bl b =>
    cases b with
    | true => exact .inl ⟨rfl, h⟩
    | false => exact .inr ⟨rfl, h⟩
  | _ => exact h.elim
theorem rd_cmp2 (O : XOk C m W X) {o q : Cop} {a b c : E} {l r t : Expr} {pos : Pos} (ha : PE X l (RdE C W a)) (hb : PE X r (RdE C W b)) (hc : PE X t (RdE C W c)) (hm : lastMarks [copM o, copM q] [r, t] = false) : PE X (.Compare l [copM o, copM q] [r, t] pos) (RdE C W (.cmp2 o q a b c)) := by
  refine PEimp (pe_chain (op_cop (units_of O) o) (op_cop (units_of O) q) ha hb hc hm) fun σ H Q ⟨F, ρ, env, st, hE, hS, p⟩ => ?_
  simp only [evE] at p
  refine ⟨F, ρ, env, st, hE, hS, PostG.bnd p fun x st1 F1 ρ1 H1 e1 s1 p1 v1 r1 => ?_⟩
  refine ⟨F1, ρ1, env, st1, hE.mono e1 hS.dis, s1, PostG.bnd p1 fun y st2 F2 ρ2 H2 e2 s2 p2 v2 r2 => ?_⟩
  cases hz : cmpP o x y with
  | none => rw [hz] at p2; exact p2.elim
  | some z =>
    rw [hz] at p2
    rw [O.K]
    refine ⟨F2, ρ2, st2, x, y, z, s2, (r1.vw s1.dis).mono e2 s1.dis, r2.vw s2.dis, hz, fun F3 ρ3 H3 e3 s3 v3 r3 => ?_⟩
    have p3 := PostG.mono (G' := GV C.K .pl H Q) e3 (show PostG C.K W F2 ρ2 H2 σ (GV C.K .pl H Q) _ from p2) fun _ _ _ _ _ z => z
    rcases chain_go (f := fun _ => M.bnd (evE C.Φ c env) fun u => M.opt (cmpP q y u)) p3 with ⟨rfl, p4⟩ | ⟨rfl, p4⟩
    · cases r3
      refine ⟨true, rfl, ?_⟩
      rw [if_pos rfl]
      have hE3 := (((hE.mono e1 hS.dis).mono e2 s1.dis).mono e3 s2.dis)
      refine ⟨F3, ρ3, env, st2, hE3, s3, PostG.bnd p4 fun u st5 F5 ρ5 H5 e5 s5 p5 v5 r5 => ?_⟩
      obtain ⟨r, er, g⟩ := PostG.opt p5
      exact ⟨F5, ρ5, st5, y, u, r, s5, (((r2.vw s2.dis).mono e3 s2.dis).mono e5 s3.dis), r5.vw s5.dis, er, fun F' ρ' H' e s v rv => g F' ρ' H' e s v rv⟩
    · cases r3
      refine ⟨false, rfl, ?_⟩
      rw [if_neg Bool.false_ne_true]
      exact p4 F3 ρ3 H3 Ext.refl s3 _ (.bl false)
theorem rd_tcmp2 (O : XOk C m W X) {o q : Cop} {a b c : E} {l r t : Expr} {pos : Pos} (ha : PE X l (RdE C W a)) (hb : PE X r (RdE C W b)) (hc : PE X t (RdE C W c)) (hm : lastMarks [copM o, copM q] [r, t] = false) : PT X (.Compare l [copM o, copM q] [r, t] pos) (RdT C W (.cmp2 o q a b c)) := by
  refine PTimp (pt_chain (op_cop (units_of O) o) (op_cop (units_of O) q) ha hb hc hm) fun σ H Q ⟨F, ρ, env, st, hE, hS, p⟩ => ?_
  simp only [evT] at p
  refine ⟨F, ρ, env, st, hE, hS, PostG.bnd p fun x st1 F1 ρ1 H1 e1 s1 p1 v1 r1 => ?_⟩
  refine ⟨F1, ρ1, env, st1, hE.mono e1 hS.dis, s1, PostG.bnd p1 fun y st2 F2 ρ2 H2 e2 s2 p2 v2 r2 => ?_⟩
  cases hz : cmpP o x y with
  | none => rw [hz] at p2; exact p2.elim
  | some z =>
    rw [hz] at p2
    rw [O.K]
    refine ⟨F2, ρ2, st2, x, y, z, s2, (r1.vw s1.dis).mono e2 s1.dis, r2.vw s2.dis, hz, fun F3 ρ3 H3 e3 s3 v3 r3 => ?_⟩
    have p3 := PostG.mono (G' := fun _ _ H' b => Q b H') e3 (show PostG C.K W F2 ρ2 H2 σ (fun _ _ H' b => Q b H') _ from p2) fun _ _ _ _ _ z => z
    rcases chain_go (f := fun _ => M.bnd (evE C.Φ c env) fun u => M.bnd (M.opt (cmpP q y u)) fun z => M.opt (truthP z)) p3 with ⟨rfl, p4⟩ | ⟨rfl, p4⟩
    · cases r3
      refine ⟨true, rfl, ?_⟩
      rw [if_pos rfl]
      have hE3 := (((hE.mono e1 hS.dis).mono e2 s1.dis).mono e3 s2.dis)
      refine ⟨F3, ρ3, env, st2, hE3, s3, PostG.bnd p4 fun u st5 F5 ρ5 H5 e5 s5 p5 v5 r5 => ?_⟩
      cases hz2 : cmpP q y u with
      | none => rw [hz2] at p5; exact p5.elim
      | some z2 =>
        rw [hz2] at p5
        have p6 : PostG C.K W F5 ρ5 H5 σ (fun _ _ H' b => Q b H') (M.opt (truthP z2) st5) := p5
        obtain ⟨k, ek, g⟩ := PostG.opt p6
        refine ⟨F5, ρ5, st5, y, u, z2, s5, (((r2.vw s2.dis).mono e3 s2.dis).mono e5 s3.dis), r5.vw s5.dis, hz2, fun F' ρ' H' e s v rv => ?_⟩
        cases z2 <;> simp only [truthP] at ek <;> try cases ek
        cases rv
        exact ⟨_, rfl, g F' ρ' H' e s⟩
    · cases r3
      refine ⟨false, rfl, ?_⟩
      rw [if_neg Bool.false_ne_true]
      exact ⟨false, rfl, p4 F3 ρ3 H3 Ext.refl s3⟩
theorem rd_not {a : E} {l : Expr} {pos : Pos} (ha : PE X l (RdE C W a)) : PE X (.UnaryOp .Not l pos) (RdE C W (.not a)) := by
  refine PEimp (pe_not ha) fun σ H Q ⟨F, ρ, env, st, hE, hS, p⟩ => ?_
  simp only [evE] at p
  refine ⟨F, ρ, env, st, hE, hS, PostG.bnd p fun x st1 F1 ρ1 H1 e1 s1 p1 v1 r1 => ?_⟩
  cases x with
  | bl b =>
    have r1 := r1.vw s1.dis
    cases r1
    exact ⟨b, rfl, p1 F1 ρ1 H1 Ext.refl s1 _ (.bl _)⟩
  | _ => exact p1.elim
theorem rd_ite {c : T} {a b : E} {t x y : Expr} {pos : Pos} (hc : PT X t (RdT C W c)) (ha : PE X x (RdE C W a)) (hb : PE X y (RdE C W b)) (ka : a.esc = true) (kb : b.esc = true) : PE X (.IfExp t x y pos) (RdE C W (.ite c a b)) := by
  refine PEimp (pe_ifExp hc ha hb) fun σ H Q ⟨F, ρ, env, st, hE, hS, p⟩ => ?_
  simp only [evE] at p
  refine ⟨F, ρ, env, st, hE, hS, PostG.bnd p fun x st1 F1 ρ1 H1 e1 s1 p1 => ?_⟩
  cases x with
  | true => exact ⟨F1, ρ1, env, st1, hE.mono e1 hS.dis, s1, post_tail (esc_kind ka) p1⟩
  | false => exact ⟨F1, ρ1, env, st1, hE.mono e1 hS.dis, s1, post_tail (esc_kind kb) p1⟩

/-! ### arguments -/
theorem star_of {e : Expr} (h : isPl e = true) (es : List Expr) (env : PySem.Env) : starEach (e :: es) env = (false, eval e env) :: starEach es env := by
  cases e <;> first | rfl | cases h
theorem pl_of {m : MC} : ∀ {as : Es} {es : List Expr}, mtEs m as es = true → ∀ env pos, (backTo pos (starEach es env)).any (·.1) = false
  | .nil, [], _ => fun _ _ => rfl
  | .nil, _ :: _, h => (Bool.false_ne_true h).elim
  | .cons _ _, [], h => (Bool.false_ne_true h).elim
  | .cons a r, e :: es, h => fun env pos => by
    have h : (isPl e && mtE m a e && mtEs m r es) = true := h
    simp only [Bool.and_eq_true] at h
    have ih := pl_of h.2 env pos
    unfold backTo at ih ⊢
    rw [star_of h.1.1]
    simp only [List.map_cons, List.any_cons, ih, Bool.or_false]
theorem rdV_nil : PA X [] (RdV C W .nil) := by
  refine PAimp pa_nil fun σ H Q ⟨F, ρ, env, st, hE, hS, p⟩ => ?_
  exact p F ρ H Ext.refl hS [] .nil
theorem VwL.mono {K : PySem.W.Frag} {F F' : Addr → Prop} {ρ ρ' : List Addr} {H H' : Hp} (e : Ext F ρ H F' ρ' H') (dis : ∀ a ∈ ρ, ¬ F a) : ∀ {ps : List PV} {vs : List V}, VwL K F ρ H vs ps → VwL K F' ρ' H' vs ps
  | _, _, .nil => .nil
  | _, _, .cons a b => .cons (a.mono e dis) (VwL.mono e dis b)
theorem rdV_cons {a : E} {r : Es} {x : Expr} {xs : List Expr} (hp : isPl x = true) (ha : PE X x (RdE C W a)) (hr : PA X xs (RdV C W r)) : PA X (x :: xs) (RdV C W (.cons a r)) := by
  refine PAimp (pa_cons ha hr (star_of hp xs X.env)) fun σ H Q ⟨F, ρ, env, st, hE, hS, p⟩ => ?_
  simp only [evEs] at p
  refine ⟨F, ρ, env, st, hE, hS, PostG.bnd p fun x st1 F1 ρ1 H1 e1 s1 p1 v1 r1 => ?_⟩
  refine ⟨F1, ρ1, env, st1, hE.mono e1 hS.dis, s1, PostG.bnd p1 fun ys st2 F2 ρ2 H2 e2 s2 p2 vs r2 => ?_⟩
  exact p2 F2 ρ2 H2 Ext.refl s2 _ (.cons ((r1.vw s1.dis).mono e2 s1.dis) r2)
theorem rdL_nil : PA X [] (RdL C W .nil) := by
  refine PAimp pa_nil fun σ H Q ⟨F, ρ, env, st, hE, hS, p⟩ => ?_
  exact p F ρ H Ext.refl hS [] .nil
theorem rdL_cons {a : E} {r : Es} {x : Expr} {xs : List Expr} (hp : isPl x = true) (ha : PE X x (RdX C W a)) (hr : PA X xs (RdL C W r)) : PA X (x :: xs) (RdL C W (.cons a r)) := by
  refine PAimp (pa_cons ha hr (star_of hp xs X.env)) fun σ H Q ⟨F, ρ, env, st, hE, hS, p⟩ => ?_
  simp only [evEs] at p
  refine ⟨F, ρ, env, st, hE, hS, PostG.bnd p fun x st1 F1 ρ1 H1 e1 s1 p1 v1 r1 => ?_⟩
  refine ⟨F1, ρ1, env, st1, hE.mono e1 hS.dis, s1, PostG.bnd p1 fun ys st2 F2 ρ2 H2 e2 s2 p2 vs r2 => ?_⟩
  exact p2 F2 ρ2 H2 Ext.refl s2 _ (.cons (Rep.mono (e2.sx s1.dis) _ _ r1) r2)
/-- how many values arguments give -/
theorem evEs_len : ∀ (as : Es) (env : En) (st st' : Sto) (ps : List PV), evEs C.Φ as env st = .ok ps st' → ps.length = as.len
  | .nil, env, st, st', ps, h => by
    simp only [evEs, M.ret] at h
    cases h; rfl
  | .cons a r, env, st, st', ps, h => by
    simp only [evEs, M.bnd] at h
    split at h
    · split at h
      · rename_i e
        cases h
        rw [List.length_cons, evEs_len r _ _ _ _ e]
        rfl
      · cases h
      · cases h
    · cases h
    · cases h
theorem small1000' {n : Nat} (h : n ≤ 1000) : n ≤ sizeLine := Nat.le_of_lt (small1000 h)
theorem rd_tup {as : Es} {es : List Expr} {k : Nat} {pos : Pos} (ha : PA X es (RdL C W as)) (hl : as.len ≤ 1000) : PE X (.Tuple es k pos) (RdE C W (.tup as)) := by
  refine PEimp (pe_tup ha) fun σ H Q ⟨F, ρ, env, st, hE, hS, p⟩ => ?_
  simp only [evE] at p
  refine ⟨F, ρ, env, st, hE, hS, ?_⟩
  have hlen : ∀ ps st', evEs C.Φ as env st = .ok ps st' → ps.length ≤ 1000 := fun ps st' h => by rw [evEs_len as env st st' ps h]; exact hl
  unfold M.bnd at p
  cases e : evEs C.Φ as env st with
  | ok ps st1 =>
    rw [e] at p
    intro F1 ρ1 H1 e1 s1 vs r1
    refine ⟨by rw [r1.len]; exact small1000' (hlen ps st1 e), ?_⟩
    exact Giv.tup (K := C.K) (st := st1) (fun F' ρ' H' e' s v rv => p F' ρ' H' (e1.trans e') s v rv) s1 r1
  | exn x st1 => rw [e] at p; exact p
  | bad => rw [e] at p; exact p
theorem rd_lst {as : Es} {es : List Expr} {pos : Pos} (ha : PA X es (RdL C W as)) (hl : as.len ≤ 1000) : PE X (.List es pos) (RdE C W (.lst as)) := by
  refine PEimp (pe_lst ha) fun σ H Q ⟨F, ρ, env, st, hE, hS, p⟩ => ?_
  simp only [evE] at p
  refine ⟨F, ρ, env, st, hE, hS, ?_⟩
  have hlen : ∀ ps st', evEs C.Φ as env st = .ok ps st' → ps.length ≤ 1000 := fun ps st' h => by rw [evEs_len as env st st' ps h]; exact hl
  unfold M.bnd at p
  cases e : evEs C.Φ as env st with
  | ok ps st1 =>
    rw [e] at p
    intro F1 ρ1 H1 e1 s1 vs r1
    refine ⟨by rw [r1.len]; exact small1000' (hlen ps st1 e), fun a n => ?_⟩
    have nr : a ∉ ρ1 := s1.nin n
    have hHn : H a = none := e1.track a n
    exact p F1 ρ1 (upd H1 a (.lst vs)) (e1.trans (Ext.lay n)) (s1.lay n) _ ⟨⟨a, vs, rfl, nr, upd_same, r1.lay s1 n⟩, a, ps, rfl, rfl, hHn, s1.nf n, nr⟩
  | exn x st1 => rw [e] at p; exact p
  | bad => rw [e] at p; exact p
end
end Pv

/-! P6: subscripts, calls, tests, what is walked, comprehensions. -/
namespace Pv
open PySem PySem.Spec PyProof.Rows L2
section
variable {C : Cq} {m : MC} {W : WX} {X : Cx}

theorem plainIx {b : Expr} (h : isPl b = true) : PlainIx b := by
  intro o i
  cases b <;> first | rfl | cases h
theorem rd_ix (O : XOk C m W X) {a b : E} {l r : Expr} {pos : Pos} (hp : isPl r = true) (ha : PE X l (RdE C W a)) (hb : PE X r (RdE C W b)) : PE X (.Subscript l r pos) (RdE C W (.ix a b)) := by
  refine PEimp (pe_ix op_ix ha hb (plainIx hp)) fun σ H Q ⟨F, ρ, env, st, hE, hS, p⟩ => ?_
  simp only [evE] at p
  refine ⟨F, ρ, env, st, hE, hS, PostG.bnd p fun x st1 F1 ρ1 H1 e1 s1 p1 v1 r1 => ?_⟩
  refine ⟨F1, ρ1, env, st1, hE.mono e1 hS.dis, s1, PostG.bnd p1 fun y st2 F2 ρ2 H2 e2 s2 p2 v2 r2 => ?_⟩
  obtain ⟨r, er, g⟩ := PostG.opt p2
  rw [O.K]
  exact ⟨F2, ρ2, st2, x, y, r, s2, (r1.vw s1.dis).mono e2 s1.dis, r2.vw s2.dis, er, fun F' ρ' H' e s v rv => g F' ρ' H' e s v rv⟩
theorem rdO_no : PO X none (RdO C W .no) := by
  refine ⟨fun pins s σ H Q I ⟨F, ρ, env, st, hE, hS, p⟩ => po_none.run pins s σ H Q I ?_⟩
  exact p F ρ H Ext.refl hS
theorem rdO_yes {a : E} {x : Expr} (ha : PE X x (RdE C W a)) : PO X (some x) (RdO C W (.yes a)) := by
  refine ⟨fun pins s σ H Q I ⟨F, ρ, env, st, hE, hS, p⟩ => (po_some ha).run pins s σ H Q I ?_⟩
  simp only [evOe] at p
  refine ⟨F, ρ, env, st, hE, hS, PostG.bnd p fun y st1 F1 ρ1 H1 e1 s1 p1 v1 r1 => ?_⟩
  cases y with
  | int i =>
    have r1 := r1.vw s1.dis
    cases r1
    exact ⟨i, rfl, p1 F1 ρ1 H1 Ext.refl s1⟩
  | _ => exact p1.elim
theorem rd_sl (O : XOk C m W X) {a : E} {lo hi : Oe} {l : Expr} {l1 h1 : Option Expr} {p2 pos : Pos} (ha : PE X l (RdE C W a)) (hl : PO X l1 (RdO C W lo)) (hh : PO X h1 (RdO C W hi)) : PE X (.Subscript l (.Slice l1 h1 none p2) pos) (RdE C W (.sl a lo hi)) := by
  refine PEimp (pe_slice op_sl ha hl hh) fun σ H Q ⟨F, ρ, env, st, hE, hS, p⟩ => ?_
  simp only [evE] at p
  refine ⟨F, ρ, env, st, hE, hS, PostG.bnd p fun x st1 F1 ρ1 H1 e1 s1 p1 v1 r1 => ?_⟩
  have hE1 := hE.mono e1 hS.dis
  refine ⟨F1, ρ1, env, st1, hE1, s1, PostG.bnd p1 fun y st2 F2 ρ2 H2 e2 s2 p2 => ?_⟩
  refine ⟨F2, ρ2, env, st2, hE1.mono e2 s1.dis, s2, PostG.bnd p2 fun z st3 F3 ρ3 H3 e3 s3 p3 => ?_⟩
  obtain ⟨r, er, g⟩ := PostG.opt p3
  rw [O.K]
  exact ⟨F3, ρ3, st3, x, r, s3, ((r1.vw s1.dis).mono e2 s1.dis).mono e3 s2.dis, er, fun F' ρ' H' e s v rv => g F' ρ' H' e s v rv⟩

theorem rd_rev (O : XOk C m W X) {a : E} {l : Expr} {k : Nat} {p1 p2 p3 pos : Pos} (ha : PE X l (RdE C W a)) : PE X (.Subscript l (.Slice none none (some (.UnaryOp .USub (.Constant (.int 1) k p1) p2)) p3) pos) (RdE C W (.rev a)) := by
  refine PEimp (pe_revL ha) fun σ H Q ⟨F, ρ, env, st, hE, hS, p⟩ => ?_
  simp only [evE] at p
  refine ⟨F, ρ, env, st, hE, hS, PostG.bnd p fun x st1 F1 ρ1 H1 e1 s1 p1 v1 r1 => ?_⟩
  obtain ⟨r, er, g⟩ := PostG.opt p1
  cases x <;> simp only [revP] at er <;> try cases er
  rename_i xs
  obtain ⟨a, vs, rfl, _, hs, rl⟩ := r1.vw s1.dis
  refine ⟨a, vs, rfl, SqL.of hs, fun q n => ?_⟩
  have nr : q ∉ ρ1 := s1.nin n
  have hHn : H q = none := e1.track q n
  exact g F1 ρ1 (upd H1 q (.lst vs.reverse)) (Ext.lay n) (s1.lay n) _ ⟨⟨q, vs.reverse, rfl, nr, upd_same, RepL.rev (rl.lay s1 n)⟩, q, xs.reverse, rfl, rfl, hHn, s1.nf n, nr⟩

theorem rd_rpl (O : XOk C m W X) {a b : E} {l r : Expr} {pos : Pos} (ha : PE X l (RdE C W a)) (hb : PE X r (RdE C W b)) : PE X (.BinOp l .Mult r pos) (RdE C W (.rpl a b)) := by
  refine PEimp (pe_op op_rep ha hb) fun σ H Q ⟨F, ρ, env, st, hE, hS, p⟩ => ?_
  simp only [evE] at p
  refine ⟨F, ρ, env, st, hE, hS, PostG.bnd p fun x st1 F1 ρ1 H1 e1 s1 p1 v1 r1 => ?_⟩
  refine ⟨F1, ρ1, env, st1, hE.mono e1 hS.dis, s1, PostG.bnd p1 fun y st2 F2 ρ2 H2 e2 s2 p2 v2 r2 => ?_⟩
  cases x <;> try exact p2.elim
  rename_i xs
  obtain ⟨q, eq, g⟩ := PostG.opt p2
  cases y <;> simp only [binP] at eq <;> try cases eq
  rename_i n
  split at eq
  · rename_i hc
    cases eq
    obtain ⟨la, vs, rfl, _, hs, rl⟩ := (r1.vw s1.dis).mono e2 s1.dis
    have r2 := r2.vw s2.dis
    cases r2
    have hlen := rl.len
    refine ⟨la, n, vs, rfl, rfl, hs, by omega, by omega, repLen _ _ (by omega) (by omega), fun t ht => ?_⟩
    have nr : t ∉ ρ2 := s2.nin ht
    have hHn : H t = none := e1.track t (e2.track t ht)
    exact g F2 ρ2 (upd H2 t _) (Ext.lay ht) (s2.lay ht) _ ⟨⟨t, _, rfl, nr, upd_same, RepL.lay (rl.flat _) s2 ht⟩, t, _, rfl, rfl, hHn, s2.nf ht, nr⟩
  · cases eq
theorem rd_dnew {pos : Pos} : PE X (.Dict [] [] pos) (RdE C W .dnew) := by
  refine PEimp pe_dnewT fun σ H Q ⟨F, ρ, env, st, hE, hS, p⟩ t ht => ?_
  simp only [evE] at p
  exact p F ρ (upd H t (.dT [])) (Ext.lay ht) (hS.lay ht) _ ⟨t, [], rfl, rfl, hS.nin ht, upd_same, rfl, ht, hS.nf ht⟩

/-! ### builtin calls -/
theorem bf_boot (f : Bf) : bootBuiltins (bfN f) = some (bfV f) := by cases f <;> decide +kernel
theorem bf_mem (f : Bf) : bfN f ∈ bnames := by cases f <;> decide +kernel
theorem bt_of (CO : CqOk C) (O : XOk C m W X) {x : Str} (h : x ∈ bnames) : X.mg x = none := by rw [O.mg]; exact CO.bt x h
theorem pe_bf {f : Bf} {e : Expr} {es : List Expr} {r : List V → Hp → VK → Prop} {t : TA} {p pos : Pos} (hc : CallR X (bfV f) r) (hg : Gl X (bfN f)) (hm : X.mg (bfN f) = none) (ha : PA X (e :: es) t) (hn : bfN f ≠ ("__name__" : Str)) (hd : (bfN f == ("__debug__" : Str)) = false)
    (he : starEach (e :: es) X.env = (false, eval e X.env) :: starEach es X.env) (hpl : (backTo pos (starEach es X.env)).any (·.1) = false) : PE X (.Call (.Name (bfN f) p) (e :: es) [] pos) (tCB r t) := by
  have hv := bf_boot f
  cases f <;> first
    | exact pe_callB hc hg hm hv ha hn hd he hpl
    | exact pe_callTy hc hg hm hv ha hn hd he hpl
theorem rd_bf (CO : CqOk C) (O : XOk C m W X) {f : Bf} {as : Es} {es : List Expr} {p pos : Pos} (hg : glB m (bfN f) = true) (hm : mtEs m as es = true) (h0 : 0 < as.len) (ha : PA X es (RdV C W as)) : PE X (.Call (.Name (bfN f) p) es [] pos) (RdE C W (.bc f as)) := by
  cases as with
  | nil => exact absurd h0 (by decide)
  | cons a r =>
    cases es with
    | nil => exact (Bool.false_ne_true hm).elim
    | cons e es =>
      have h1 : (isPl e && mtE m a e && mtEs m r es) = true := hm
      simp only [Bool.and_eq_true] at h1
      obtain ⟨g1, g2, g3⟩ := gl_of O hg
      refine PEimp (pe_bf (op_bf O.calm (units_of O) f) g1 (bt_of CO O (bf_mem f)) ha g3 g2 (star_of h1.1.1 es X.env) (pl_of h1.2 X.env pos)) fun σ H Q ⟨F, ρ, env, st, hE, hS, p⟩ => ?_
      simp only [evE] at p
      refine ⟨F, ρ, env, st, hE, hS, PostG.bnd p fun xs st1 F1 ρ1 H1 e1 s1 p1 vs r1 => ?_⟩
      obtain ⟨r, er, g⟩ := PostG.opt p1
      rw [O.K]
      exact ⟨F1, ρ1, st1, xs, r, s1, r1, er, fun F' ρ' H' e s v rv => g F' ρ' H' e s v rv⟩
theorem rd_lof (CO : CqOk C) (O : XOk C m W X) {a : E} {l : Expr} {p pos : Pos} (hg : glB m (bfN .list) = true) (hp : isPl l = true) (ha : PE X l (RdE C W a)) : PE X (.Call (.Name (bfN .list) p) [l] [] pos) (RdE C W (.lof a)) := by
  obtain ⟨g1, g2, g3⟩ := gl_of O hg
  refine PEimp (pe_bf (f := .list) call_list_of g1 (bt_of CO O (bf_mem .list)) (pa_cons ha pa_nil (star_of hp [] X.env)) g3 g2 (star_of hp [] X.env) rfl) fun σ H Q ⟨F, ρ, env, st, hE, hS, p⟩ => ?_
  simp only [evE] at p
  refine ⟨F, ρ, env, st, hE, hS, PostG.bnd p fun x st1 F1 ρ1 H1 e1 s1 p1 v1 r1 => ?_⟩
  obtain ⟨r, er, g⟩ := PostG.opt p1
  obtain ⟨xs, ex, rfl⟩ := Option.map_eq_some_iff.mp er
  have fin : ∀ vs : List V, RepL C.K F1 ρ1 H1 vs xs → ∀ t, H1 t = none → Q (.ref t) (upd H1 t (.lst vs)) := fun vs rl t ht => by
    have nr : t ∉ ρ1 := s1.nin ht
    have hHn : H t = none := e1.track t ht
    exact g F1 ρ1 (upd H1 t (.lst vs)) (Ext.lay ht) (s1.lay ht) _ ⟨⟨t, _, rfl, nr, upd_same, RepL.lay rl s1 ht⟩, t, _, rfl, rfl, hHn, s1.nf ht, nr⟩
  have r2 := r1.vw s1.dis
  rw [← O.K] at fin
  cases x <;> simp only [seqOf] at ex <;> try cases ex
  · cases r2 with
    | tup f1 h1 rl => exact ⟨_, _, rfl, .inr (.inl (.inl h1)), fun t ht => fin _ (O.K ▸ rl) t ht⟩
  · obtain ⟨b, vs, rfl, _, h1, rl⟩ := r2
    exact ⟨_, _, rfl, .inl (SqL.of h1), fun t ht => fin _ (O.K ▸ rl) t ht⟩
/-! how many unlike tuples -/
theorem nubL_mem : ∀ (l : List (List Int)) (x : List Int), x ∈ nubL l ↔ x ∈ l
  | [], x => by simp [nubL]
  | y :: r, x => by
    unfold nubL
    by_cases h : y ∈ r
    · rw [if_pos h, nubL_mem r x, List.mem_cons]
      exact ⟨.inr, fun z => z.elim (fun e => e ▸ h) id⟩
    · rw [if_neg h, List.mem_cons, List.mem_cons, nubL_mem r x]
theorem nubL_nodup : ∀ l : List (List Int), (nubL l).Nodup
  | [] => List.nodup_nil
  | y :: r => by
    unfold nubL
    by_cases h : y ∈ r
    · rw [if_pos h]; exact nubL_nodup r
    · rw [if_neg h, List.nodup_cons, nubL_mem]; exact ⟨h, nubL_nodup r⟩
theorem nub_len {l m : List (List Int)} (h : l.Nodup) (e : ∀ x, x ∈ l ↔ x ∈ m) : l.length = (nubL m).length :=
  Nat.le_antisymm (h.length_le_of_subset fun x hx => (nubL_mem m x).mpr ((e x).mp hx)) ((nubL_nodup m).length_le_of_subset fun x hx => (e x).mpr ((nubL_mem m x).mp hx))
theorem tups_rep {K : PySem.W.Frag} {F : Addr → Prop} {ρ : List Addr} {H : Hp} : ∀ {vs : List V} {xs : List PV}, RepL K F ρ H vs xs → (xs.all fun x => (keyP x).isSome) = true → ∃ ks : List (Addr × List Int), vs = ks.map (fun p => V.ref p.1) ∧ ks.map (·.2) = xs.map keyD ∧ ∀ p ∈ ks, H p.1 = some (.tup (p.2.map V.int))
  | _, [], .nil, _ => ⟨[], rfl, rfl, fun _ h => nomatch h⟩
  | _, x :: xs, .cons r rl, h => by
    rw [List.all_cons, Bool.and_eq_true] at h
    obtain ⟨ks, e1, e2, e3⟩ := tups_rep rl h.2
    obtain ⟨ns, hns⟩ := Option.isSome_iff_exists.mp h.1
    cases x with
    | tup ps =>
      cases r with
      | @tup a us _ f hr rl2 =>
        have hns : intsOf ps = some ns := hns
        have ei : us = ns.map V.int := ints_rep rl2 hns
        refine ⟨(a, ns) :: ks, by rw [e1]; rfl, ?_, fun p hp => ?_⟩
        · rw [List.map_cons, List.map_cons, e2]
          congr 1
          unfold keyD
          rw [show keyP (.tup ps) = intsOf ps from rfl, hns]
          rfl
        · rcases List.mem_cons.mp hp with rfl | hp
          · rw [← ei]; exact hr
          · exact e3 p hp
    | _ => exact absurd hns (by simp [keyP])
theorem rd_laid {H : Hp} {a t : Addr} {u o : HO} (h : Rd H a u) (n : H t = none) : Rd (upd H t o) a u := by
  have ne : a ≠ t := fun e => by
    subst e
    rcases h with h | ⟨_, h⟩
    · rw [n] at h; cases h
    · rw [n] at h; cases h
  rcases h with h | ⟨o', h⟩
  · exact .inl (by rw [upd_ne ne]; exact h)
  · exact .inr ⟨o', by rw [upd_ne ne]; exact h⟩
def rLenT (K : PySem.W.Frag) (P : Program) (w : World) : List V → Hp → VK → Prop := fun vs H Q => ∃ (a : Addr) (L : List (Addr × List Int)), vs = [V.ref a] ∧ H a = some (SetTO P w a L) ∧ (∀ p ∈ L, SqT K H p.1 (p.2.map V.int)) ∧ ((L.map (·.2)).Nodup → Q (.int L.length) H)
theorem cr_lenT {X : Cx} (hc : X.calm = true) : CallR X (.builtin "len") (rLenT X.K X.prog X.w) := by
  intro pins s σ H vs us Q I r h
  obtain ⟨a, L, rfl, ha, hk, q⟩ := h
  have R0 : SetT0 X.prog X.w s.heap a L := (I.hok a _ ha).1
  obtain ⟨es, ep, t, R⟩ := R0.full fun p hp => I.isT (hk p hp)
  rw [Vals.ref1 r]
  obtain ⟨o, ho, hex, hd⟩ := R.ob
  have hs := R.size
  have hf := R.fits
  have hfew := R.few
  exact call_len_set ho hex hd hf (by rw [hs]; omega) ⟨.int L.length, H, I.tok _, ⟨_, by rw [hs]⟩, q R.nd⟩
def rSetI (K : PySem.W.Frag) (w : World) : List V → Hp → VK → Prop := fun xs H Q => ∃ (l : Addr) (ns : List Int), xs = [V.ref l] ∧ SqT K H l (ns.map V.int) ∧ ns.length < 64 ∧ ∀ a c, H a = none → Q (.ref a) (upd H a (SetO w a (fun j => decide (j ∈ ns)) c))
theorem cr_setI {X : Cx} (hc : X.calm = true) : CallR X (.type "set") (rSetI X.K X.w) := by
  intro pins s σ H xs us Q I r h
  obtain ⟨l, ns, rfl, hl, hf, q⟩ := h
  rw [Vals.ref1 r]
  obtain ⟨its, rv, ⟨o, ho, hcl, n, hd⟩, hz⟩ := I.tuple hl
  have hn : H s.heap.objs.size = none := I.hok.fresh (Nat.le_refl _)
  have hsb : scanBound = 4096 := rfl
  refine call_set_tupI (P := X.prog) (w := X.w) (items := its.toArray) ns (I.ok.hd hc) ⟨o, ho, hcl, n, hd⟩ (by simpa using ints_of_vals rv) (by omega) fun h' tk c R hcn k => ?_
  exact ⟨.ref s.heap.objs.size, upd H s.heap.objs.size (SetO X.w s.heap.objs.size (fun j => decide (j ∈ ns)) c), I.laid (t' := tk) k (Nat.le_refl _) (setO_new R), rfl, q _ c hn⟩
theorem nubI_mem : ∀ (l : List Int) (k : Int), k ∈ nubI l ↔ k ∈ l
  | [], k => by simp [nubI]
  | x :: r, k => by
    unfold nubI
    have ih := nubI_mem r k
    split
    · rename_i hx
      rw [ih, List.mem_cons]
      exact ⟨.inr, fun h => h.elim (fun e => e ▸ hx) id⟩
    · rw [List.mem_cons, List.mem_cons, ih]
theorem nubI_nd : ∀ l : List Int, (nubI l).Nodup
  | [] => List.nodup_nil
  | x :: r => by
    unfold nubI
    split
    · exact nubI_nd r
    · rename_i hx
      exact List.nodup_cons.mpr ⟨fun h => hx ((nubI_mem r x).mp h), nubI_nd r⟩
theorem cr_lenI {X : Cx} (S : Int → Bool) (L : List Int) (nd : L.Nodup) (hS : ∀ k, S k = true ↔ k ∈ L) : CallR X (.builtin "len") (fun vs H Q => ∃ (a : Addr) (n : Nat), vs = [V.ref a] ∧ H a = some (SetO X.w a S n) ∧ Q (.int L.length) H) := by
  intro pins s σ H vs us Q I r h
  obtain ⟨a, n, rfl, ha, q⟩ := h
  obtain ⟨o, es, ep, t, ho, hex, hd, _, hnd, hm, hsz, hf, hn, _⟩ := setO_get I ha
  rw [Vals.ref1 r]
  have hlen : es.size = L.length := by
    have e1 : (es.toList.map keyOf).length = es.size := by rw [List.length_map, Array.length_toList]
    rw [← e1]
    exact Nat.le_antisymm (hnd.length_le_of_subset fun k hk => (hS k).mp ((hm k).mpr hk)) (nd.length_le_of_subset fun k hk => (hm k).mp ((hS k).mpr hk))
  have hsb : scanBound = 4096 := rfl
  exact call_len_set ho hex hd hf (by omega) ⟨.int L.length, H, I.tok _, ⟨_, by rw [hlen]⟩, q⟩
theorem cr_or {X : Cx} {f : Value} {r1 r2 : List V → Hp → VK → Prop} (h1 : CallR X f r1) (h2 : CallR X f r2) : CallR X f (fun vs H Q => r1 vs H Q ∨ r2 vs H Q) := by
  intro pins s σ H vs us Q I r h
  rcases h with h | h
  · exact h1 pins s σ H vs us Q I r h
  · exact h2 pins s σ H vs us Q I r h
def rLenS (w : World) : List V → Hp → VK → Prop := fun vs H Q => ∃ (S : Int → Bool) (L : List Int), L.Nodup ∧ (∀ k, S k = true ↔ k ∈ L) ∧ ∃ (a : Addr) (n : Nat), vs = [V.ref a] ∧ H a = some (SetO w a S n) ∧ Q (.int L.length) H
theorem cr_lenS {X : Cx} : CallR X (.builtin "len") (rLenS X.w) := by
  intro pins s σ H vs us Q I r h
  obtain ⟨S, L, nd, hS, h⟩ := h
  exact cr_lenI S L nd hS pins s σ H vs us Q I r h
theorem rd_lset (CO : CqOk C) (O : XOk C m W X) {a : E} {l : Expr} {p p2 pos pos2 : Pos} (hg : glB m (bfN .len) = true) (hg2 : glB m (bfN .set) = true) (hp : isPl l = true) (ha : PE X l (RdE C W a)) : PE X (.Call (.Name (bfN .len) p) [.Call (.Name (bfN .set) p2) [l] [] pos2] [] pos) (RdE C W (.lset a)) := by
  obtain ⟨g1, g2, g3⟩ := gl_of O hg
  obtain ⟨k1, k2, k3⟩ := gl_of O hg2
  have hu := units_of O
  have q0 := pe_bf (X := X) (f := .set) (p := p2) (pos := pos2) (cr_or (cr_setOfT O.calm (by omega)) (cr_setI O.calm)) k1 (bt_of CO O (bf_mem .set)) (pa_cons ha pa_nil (star_of hp [] X.env)) k3 k2 (star_of hp [] X.env) rfl
  have hpl : isPl (.Call (.Name (bfN .set) p2) [l] [] pos2) = true := rfl
  have q := pe_bf (X := X) (f := .len) (p := p) (pos := pos) (cr_or (cr_lenT O.calm) cr_lenS) g1 (bt_of CO O (bf_mem .len)) (pa_cons q0 pa_nil (star_of hpl [] X.env)) g3 g2 (star_of hpl [] X.env) rfl
  refine PEimp q fun σ H Q ⟨F, ρ, env, st, hE, hS, p⟩ => ?_
  simp only [evE] at p
  refine ⟨F, ρ, env, st, hE, hS, PostG.bnd p fun x st1 F1 ρ1 H1 e1 s1 p1 v1 r1 => ?_⟩
  obtain ⟨r, er, g⟩ := PostG.opt p1
  have r2 := r1.vw s1.dis
  cases x <;> try cases er
  case tup xs =>
    cases r2 with
    | @tup b us _ hF hr rl =>
    unfold lsetP at er
    simp only at er
    split at er
    · rename_i ns hns
      split at er
      · rename_i hc
        cases er
        have ei : us = ns.map V.int := ints_rep rl hns
        subst ei
        refine .inr ⟨b, ns, rfl, .inl (.inl hr), hc, fun t c ht => .inr ⟨fun j => decide (j ∈ ns), nubI ns, nubI_nd ns, fun k => by rw [decide_eq_true_eq, nubI_mem], t, c, rfl, upd_same, ?_⟩⟩
        exact g F1 ρ1 (upd H1 t _) (Ext.lay ht) (s1.lay ht) _ (.int _)
      · cases er
    · cases er
  case lst xs =>
    obtain ⟨b, vs, rfl, _, h1, rl⟩ := r2
    unfold lsetP at er
    simp only at er
    split at er
    · rename_i hc
      cases er
      obtain ⟨ks, ek1, ek2, ek3⟩ := tups_rep rl hc.2
      have hlen : ks.length = xs.length := by
        have := congrArg List.length ek2
        rwa [List.length_map, List.length_map] at this
      subst ek1
      refine .inl ⟨b, ks, rfl, SqL.of h1, fun p hp => .inl (.inl (ek3 p hp)), by omega, fun t L ht hsub hall => .inl ⟨t, L, rfl, upd_same, fun p hp => .inl (rd_laid (.inl (ek3 p (hsub p hp))) ht), fun nd => ?_⟩⟩
      have hn : L.length = (nubL (xs.map keyD)).length := by
        rw [← List.length_map (f := (·.2)) (as := L)]
        refine nub_len nd fun k => ?_
        rw [← ek2]
        constructor
        · intro hk
          obtain ⟨p, hp, rfl⟩ := List.mem_map.mp hk
          exact List.mem_map.mpr ⟨p, hsub p hp, rfl⟩
        · intro hk
          obtain ⟨p, hp, rfl⟩ := List.mem_map.mp hk
          exact hall p hp
      rw [hn]
      exact g F1 ρ1 (upd H1 t _) (Ext.lay ht) (s1.lay ht) _ (.int _)
    · cases er
theorem ty_boot (t : Ty) : bootBuiltins (Str.ofString t.nm) = some (.type t.nm) := by cases t <;> decide +kernel
theorem ty_mem (t : Ty) : Str.ofString t.nm ∈ bnames := by cases t <;> decide +kernel
theorem rd_isi (CO : CqOk C) (O : XOk C m W X) {t : Ty} {a : E} {l : Expr} {p q pos : Pos} (hg : glB m ("isinstance" : Str) = true) (hg2 : glB m (Str.ofString t.nm) = true) (hp : isPl l = true) (ha : PE X l (RdE C W a)) :
    PE X (.Call (.Name ("isinstance" : Str) p) [l, .Name (Str.ofString t.nm) q] [] pos) (RdE C W (.isi a t)) := by
  obtain ⟨g1, g2, g3⟩ := gl_of O hg
  obtain ⟨k1, k2, k3⟩ := gl_of O hg2
  have hty : PE X (.Name (Str.ofString t.nm) q) (tC (.ty t.nm)) := pe_bltn (v := V.ty t.nm) k1 (bt_of CO O (ty_mem t)) (ty_boot t) rfl k3 k2
  have hpa : PA X [l, .Name (Str.ofString t.nm) q] (tCons (RdE C W a) (tCons (tC (.ty t.nm)) tNil)) := pa_cons ha (pa_cons hty pa_nil) (star_of hp _ X.env)
  refine PEimp (pe_callB (op_isi t) g1 (bt_of CO O (by decide +kernel)) (by decide +kernel) hpa g3 g2 (star_of hp _ X.env)) fun σ H Q ⟨F, ρ, env, st, hE, hS, p⟩ => ?_
  simp only [evE] at p
  refine ⟨F, ρ, env, st, hE, hS, PostG.bnd p fun x st1 F1 ρ1 H1 e1 s1 p1 v1 r1 => ?_⟩
  cases hz : isiP x t with
  | none => rw [hz] at p1; exact p1.elim
  | some b =>
    rw [hz] at p1
    have p2 : PostG C.K W F1 ρ1 H1 σ (GV C.K .pl H Q) (Out.ok (.bl b) st1) := p1
    rw [O.K]
    exact ⟨v1, F1, ρ1, st1, x, b, rfl, s1, r1.vw s1.dis, hz, giv_of p2⟩

/-! ### calls of defs -/
theorem ds_of (O : XOk C m W X) {f : Nat} {x : Str} (h : m.ds[f]? = some x) : ∃ d, C.ds[f]? = some d ∧ d.name = x := by
  rw [O.ds, List.getElem?_map] at h
  cases e : C.ds[f]? with
  | none => rw [e] at h; cases h
  | some d => rw [e] at h; exact ⟨d, rfl, Option.some.inj h⟩
theorem post_E {K : PySem.W.Frag} {F : Addr → Prop} {ρ : List Addr} {H H0 : Hp} {σ : L2.St} {Q : VK} {o : Out PV} (h : PostG K W F ρ H σ (GV K .pl H0 Q) o) : PostG K (fun c d _ H => WE W σ c d H) F ρ H [] (GV K .pl H Q) o := by
  cases o with
  | ok r st => exact fun F' ρ' H' e s v rv => h F' ρ' H' e s v rv
  | exn x st => exact fun c d H' F' ρ' e s r => h c d H' F' ρ' e s r
  | bad => exact h
theorem rd_call (CO : CqOk C) (O : XOk C m W X) {f : Nat} {as : Es} {es : List Expr} {x : Str} {p pos : Pos} (hf : m.ds[f]? = some x) (hg : glB m x = true) (hm : mtEs m as es = true) (ha : PA X es (RdL C W as)) : PE X (.Call (.Name x p) es [] pos) (RdE C W (.call f as)) := by
  obtain ⟨d, hd, hx⟩ := ds_of O hf
  obtain ⟨hF, hmg, hk, hb, hnp⟩ := CO.fn f d hd
  obtain ⟨g1, g2, g3⟩ := gl_of O hg
  rw [hx] at hmg
  obtain ⟨op, ow, oK, omg, obase⟩ := And.intro O.prog (And.intro O.w (And.intro O.K (And.intro O.mg O.base)))
  rw [← op, ← ow, ← oK, ← omg, ← obase] at hF
  rw [← omg] at hmg
  rw [← oK] at hk hb
  have hx := fun σ => passAt (X := X) O.tk σ
  have fin : ∀ σ H Q, RdE C W (.call f as) σ H Q → tCallSD (spOf X.K d.np (C.Φ f)) [] (WE W) (RdL C W as) σ H Q := by
    rintro σ H Q ⟨F, ρ, env, st, hE, hS, p⟩
    simp only [evE] at p
    refine ⟨F, ρ, env, st, hE, hS, PostG.bnd p fun xs st1 F1 ρ1 H1 e1 s1 p1 vs r1 => ?_⟩
    show spOf X.K d.np (C.Φ f) (vs ++ []) H1 Q (WE W σ)
    rw [List.append_nil]
    by_cases hl : xs.length = d.np
    · rw [O.K]
      exact ⟨by rw [r1.len]; exact hl, F1, ρ1, st1, xs, r1, s1, post_E p1⟩
    · rw [hnp xs st1 hl] at p1
      exact p1.elim
  cases es with
  | nil =>
    cases as with
    | nil =>
      have h0 : PE X (.Call (.Name x p) [] [] pos) (tCallSD (spOf X.K d.np (C.Φ f)) [] (WE W) tNil) := by
        refine ⟨fun pins s σ H Q I h => ?_⟩
        refine wpAny_Call_Name_kw (ld_glob I g1 hmg ?_ g2)
        exact PySem.W.callWith_K0 I.kIn hk (run_fnSD (us := []) (E := WE W) hF O.room hb .nil (hx σ) I .nil h)
      refine PEimp h0 fun σ H Q q => ?_
      obtain ⟨F, ρ, env, st, hE, hS, p⟩ := fin σ H Q q
      exact p F ρ H Ext.refl hS [] .nil
    | cons a r => exact (Bool.false_ne_true hm).elim
  | cons e es =>
    cases as with
    | nil => exact (Bool.false_ne_true hm).elim
    | cons a r =>
      have h1 : (isPl e && mtE m a e && mtEs m r es) = true := hm
      simp only [Bool.and_eq_true] at h1
      exact PEimp (pe_callSD hF O.room g1 hmg hk hb .nil hx ha g2 (star_of h1.1.1 es X.env) (pl_of h1.2 X.env pos)) fin

theorem rd_cel {a : E} {x : Expr} (hk : a.kind = .fr) (ha : PE X x (RdE C W a)) : PE X x (RdE C W (.cel a)) := by
  refine PEimp ha fun σ H Q ⟨F, ρ, env, st, hE, hS, p⟩ => ⟨F, ρ, env, st, hE, hS, ?_⟩
  simp only [evE] at p
  unfold M.bnd at p
  cases e : evE C.Φ a env st with
  | ok r st1 =>
    rw [e] at p
    rw [hk]
    intro F1 ρ1 H1 e1 s1 v hr
    obtain ⟨hv, b, ps, rfl, rfl, n, nf, nr⟩ := hr
    obtain ⟨b', vs, e2, _, hb, rs⟩ := hv
    cases e2
    have sx : Sx F1 ρ1 H1 F1 (ρ1 ++ [b]) H1 := ⟨fun _ h => h, fun _ _ _ h => h, fun k c h => by rw [List.getElem?_append_left (List.getElem?_eq_some_iff.mp h).1]; exact h⟩
    have hl := s1.len
    refine p F1 (ρ1 ++ [b]) H1 ⟨e1.sub, e1.new, e1.keep, e1.track, fun k c h => sx.cel k c (e1.cel k c h), fun c hc => ?_⟩ ⟨by simp [hl], ?_, fun c hc => ?_, s1.trk, fun k c q h1 h2 => ?_⟩ _ (.cel ?_)
    · rcases List.mem_append.mp hc with z | z
      · exact e1.celn c z
      · rw [List.mem_singleton.mp z]; exact .inr n
    · rw [List.nodup_append]
      refine ⟨s1.nd, by simp, fun x hx y hy z => ?_⟩
      rw [List.mem_singleton.mp hy] at z
      rw [z] at hx
      exact nr hx
    · rcases List.mem_append.mp hc with z | z
      · exact s1.dis c z
      · rw [List.mem_singleton.mp z]; exact nf
    · by_cases hk : k < ρ1.length
      · rw [List.getElem?_append_left hk] at h1
        rw [List.getElem?_append_left (by omega)] at h2
        exact (s1.at_ k c q h1 h2).mono sx fun _ h => h
      · have hk2 : k < (ρ1 ++ [b]).length := (List.getElem?_eq_some_iff.mp h1).1
        have : k = ρ1.length := by simp at hk2; omega
        subst this
        rw [List.getElem?_concat_length] at h1
        rw [hl, List.getElem?_concat_length] at h2
        cases h1
        cases h2
        exact ⟨vs, hb, RepL.mono sx _ _ rs⟩
    · rw [← hl, List.getElem?_concat_length]
  | exn r st1 => rw [e] at p; exact p
  | bad => rw [e] at p; exact p

/-! ### and, or; tests -/
theorem rd_bo1 {isAnd : Bool} {a : E} {x : Expr} {op : BoolOp} {pos : Pos} (ha : PE X x (RdX C W a)) : PE X (.BoolOp op [x] pos) (RdBo C W isAnd (.cons a .nil)) := by
  refine PEimp (pe_one ha) fun σ H Q ⟨F, ρ, env, st, hE, hS, p⟩ => ?_
  simp only [evBo] at p
  refine ⟨F, ρ, env, st, hE, hS, ?_⟩
  unfold M.bnd at p
  cases e : evE C.Φ a env st with
  | ok r st1 => rw [e] at p; exact p
  | exn x st1 => rw [e] at p; exact p
  | bad => rw [e] at p; exact p
theorem rd_bo2 {isAnd : Bool} {a b : E} {r : Es} {x y : Expr} {xs : List Expr} {pos : Pos} (ha : PE X x (RdE C W a)) (hb : PE X (.BoolOp (if isAnd then .And else .Or) (y :: xs) pos) (RdBo C W isAnd (.cons b r))) :
    PE X (.BoolOp (if isAnd then .And else .Or) (x :: y :: xs) pos) (RdBo C W isAnd (.cons a (.cons b r))) := by
  have key : ∀ {σ H Q}, RdBo C W isAnd (.cons a (.cons b r)) σ H Q → RdE C W a σ H fun v H1 => ∃ c, v = .bl c ∧ if c = isAnd then RdBo C W isAnd (.cons b r) σ H1 Q else Q (.bl c) H1 := by
    rintro σ H Q ⟨F, ρ, env, st, hE, hS, p⟩
    rw [evBo] at p
    refine ⟨F, ρ, env, st, hE, hS, PostG.bnd p fun z st1 F1 ρ1 H1 e1 s1 p1 v1 r1 => ?_⟩
    cases z with
    | bl c =>
      have r1 := r1.vw s1.dis
      cases r1
      refine ⟨c, rfl, ?_⟩
      have p2 : PostG C.K W F1 ρ1 H1 σ (GV C.K .pl H Q) ((if c = isAnd then evBo C.Φ isAnd (.cons b r) env else M.ret (.bl c)) st1) := p1
      by_cases hc : c = isAnd
      · rw [if_pos hc] at p2 ⊢
        refine ⟨F1, ρ1, env, st1, hE.mono e1 hS.dis, s1, ?_⟩
        exact post_tail (by decide) p2
      · rw [if_neg hc] at p2 ⊢
        exact p2 F1 ρ1 H1 Ext.refl s1 _ (.bl c)
    | _ => exact p1.elim
  cases isAnd with
  | true =>
    refine PEimp (pe_and ha hb) fun σ H Q q => ?_
    obtain ⟨F, ρ, env, st, hE, hS, p⟩ := key q
    refine ⟨F, ρ, env, st, hE, hS, PostG.mono Ext.refl p fun F' ρ' H' x e g v rv => ?_⟩
    obtain ⟨c, rfl, q⟩ := g v rv
    refine ⟨c, rfl, ?_⟩
    cases c with
    | true => exact q
    | false => exact q
  | false =>
    refine PEimp (pe_or ha hb) fun σ H Q q => ?_
    obtain ⟨F, ρ, env, st, hE, hS, p⟩ := key q
    refine ⟨F, ρ, env, st, hE, hS, PostG.mono Ext.refl p fun F' ρ' H' x e g v rv => ?_⟩
    obtain ⟨c, rfl, q⟩ := g v rv
    refine ⟨c, rfl, ?_⟩
    cases c with
    | true => exact q
    | false => exact q
theorem rd_te {a : E} {x : Expr} (hl : leafT x = true) (ha : PE X x (RdE C W a)) : PT X x (RdT C W (.e a)) := by
  refine PTimp (pt_truth ha (by intro wh; cases x <;> first | rfl | cases hl)) fun σ H Q ⟨F, ρ, env, st, hE, hS, p⟩ => ?_
  simp only [evT] at p
  refine ⟨F, ρ, env, st, hE, hS, PostG.bnd p fun x st1 F1 ρ1 H1 e1 s1 p1 v1 r1 => ?_⟩
  obtain ⟨k, ek, g⟩ := PostG.opt p1
  cases x <;> simp only [truthP] at ek <;> try cases ek
  have r1 := r1.vw s1.dis
  cases r1
  exact ⟨_, rfl, g F1 ρ1 H1 Ext.refl s1⟩
theorem rd_tnot {t : T} {x : Expr} {pos : Pos} (ha : PT X x (RdT C W t)) : PT X (.UnaryOp .Not x pos) (RdT C W (.not t)) := by
  refine PTimp (pt_not ha) fun σ H Q ⟨F, ρ, env, st, hE, hS, p⟩ => ?_
  simp only [evT] at p
  refine ⟨F, ρ, env, st, hE, hS, PostG.bnd p fun b st1 F1 ρ1 H1 e1 s1 p1 => ?_⟩
  exact p1 F1 ρ1 H1 Ext.refl s1
theorem rd_tbo1 {isAnd : Bool} {t : T} {x : Expr} {pos : Pos} (ha : PT X x (RdT C W t)) : PW X (.BoolOp (if isAnd then .And else .Or) [x] pos) (RdBoT C W isAnd (.cons t .nil)) := by
  have key : ∀ {σ H Q}, RdBoT C W isAnd (.cons t .nil) σ H Q → RdT C W t σ H Q := by
    rintro σ H Q ⟨F, ρ, env, st, hE, hS, p⟩
    simp only [evBoT] at p
    refine ⟨F, ρ, env, st, hE, hS, ?_⟩
    unfold M.bnd at p
    cases e : evT C.Φ t env st with
    | ok r st1 => rw [e] at p; exact p
    | exn x st1 => rw [e] at p; exact p
    | bad => rw [e] at p; exact p
  cases isAnd with
  | true => exact PWimp (pw_and1 ha) fun _ _ _ q => key q
  | false => exact PWimp (pw_or1 ha) fun _ _ _ q => key q
theorem rd_tbo2 {isAnd : Bool} {t u : T} {r : Ts} {x y : Expr} {xs : List Expr} {pos : Pos} (ha : PT X x (RdT C W t)) (hb : PW X (.BoolOp (if isAnd then .And else .Or) (y :: xs) pos) (RdBoT C W isAnd (.cons u r))) :
    PW X (.BoolOp (if isAnd then .And else .Or) (x :: y :: xs) pos) (RdBoT C W isAnd (.cons t (.cons u r))) := by
  have key : ∀ {σ H Q}, RdBoT C W isAnd (.cons t (.cons u r)) σ H Q → RdT C W t σ H fun c H1 => if c = isAnd then RdBoT C W isAnd (.cons u r) σ H1 Q else Q c H1 := by
    rintro σ H Q ⟨F, ρ, env, st, hE, hS, p⟩
    rw [evBoT] at p
    refine ⟨F, ρ, env, st, hE, hS, PostG.bnd p fun c st1 F1 ρ1 H1 e1 s1 p1 => ?_⟩
    have p2 : PostG C.K W F1 ρ1 H1 σ (fun _ _ H' b => Q b H') ((if c = isAnd then evBoT C.Φ isAnd (.cons u r) env else M.ret c) st1) := p1
    by_cases hc : c = isAnd
    · rw [if_pos hc] at p2
      show if c = isAnd then _ else _
      rw [if_pos hc]
      exact ⟨F1, ρ1, env, st1, hE.mono e1 hS.dis, s1, p2⟩
    · rw [if_neg hc] at p2
      show if c = isAnd then _ else _
      rw [if_neg hc]
      exact p2 F1 ρ1 H1 Ext.refl s1
  cases isAnd with
  | true =>
    refine PWimp (pw_and ha hb) fun σ H Q q => ?_
    obtain ⟨F, ρ, env, st, hE, hS, p⟩ := key q
    refine ⟨F, ρ, env, st, hE, hS, PostG.mono Ext.refl p fun F' ρ' H' c e g => ?_⟩
    cases c with
    | true => exact g
    | false => exact g
  | false =>
    refine PWimp (pw_or ha hb) fun σ H Q q => ?_
    obtain ⟨F, ρ, env, st, hE, hS, p⟩ := key q
    refine ⟨F, ρ, env, st, hE, hS, PostG.mono Ext.refl p fun F' ρ' H' c e g => ?_⟩
    cases c with
    | true => exact g
    | false => exact g
theorem rdTs_nil : PTs X [] (RdTs C W .nil) := ⟨fun pins s σ H Q I ⟨F, ρ, env, st, hE, hS, p⟩ => pts_nil.run pins s σ H Q I (p F ρ H Ext.refl hS)⟩
theorem rdTs_one {t : T} {x : Expr} (h : PT X x (RdT C W t)) : PTs X [x] (RdTs C W (.cons t .nil)) := ⟨fun pins s σ H Q I ⟨F, ρ, env, st, hE, hS, p⟩ => (pts_one h).run pins s σ H Q I ⟨F, ρ, env, st, hE, hS, p⟩⟩
end
end Pv

/-! P7: targets, what is walked, comprehensions. -/
namespace Pv
open PySem PySem.Spec PyProof.Rows L2

/-! ### slots -/
theorem look_put_same : ∀ {env : En} {i : Nat} {s : Slot}, i < env.length → look (put env i s) i = s
  | [], i, _, h => absurd h (Nat.not_lt_zero _)
  | _ :: _, 0, _, _ => rfl
  | _ :: r, i + 1, s, h => look_put_same (env := r) (Nat.lt_of_succ_lt_succ h)
theorem look_put_ne : ∀ {env : En} {i j : Nat} {s : Slot}, j ≠ i → look (put env i s) j = look env j
  | [], _, _, _, _ => rfl
  | _ :: _, 0, 0, _, h => absurd rfl h
  | _ :: _, 0, _ + 1, _, _ => rfl
  | _ :: _, _ + 1, 0, _, _ => rfl
  | _ :: r, i + 1, j + 1, s, h => look_put_ne (env := r) fun e => h (by rw [e])
theorem put_len : ∀ {env : En} {i : Nat} {s : Slot}, (put env i s).length = env.length
  | [], _, _ => rfl
  | _ :: _, 0, _ => rfl
  | _ :: r, i + 1, s => by simp [put, put_len (env := r)]
theorem look_len : ∀ {env : En} {i : Nat}, look env i ≠ .no → i < env.length
  | [], _, h => absurd rfl h
  | _ :: _, 0, _ => Nat.succ_pos _
  | _ :: r, i + 1, h => Nat.succ_lt_succ (look_len (env := r) h)
section
variable {K : PySem.W.Frag} {F : Addr → Prop} {ρ : List Addr} {H : Hp} {env : En} {σ : L2.St}
theorem EnvOk.put {i : Nat} {v : V} {p : PV} (h : EnvOk K F ρ H env σ) (hi : i < env.length) (r : Rep K F ρ H v p) : EnvOk K F ρ H (put env i (.val p)) (σ.set i (some v)) := by
  have hs : i < σ.length := by rw [← h.len]; exact hi
  refine ⟨by rw [put_len, List.length_set]; exact h.len, fun j q e => ?_, fun j q e => ?_, fun j l q q' a e1 e2 e3 e4 => ?_⟩
  · by_cases hj : j = i
    · subst hj
      rw [look_put_same hi] at e
      cases e
      exact ⟨v, List.getElem?_set_self hs, r⟩
    · rw [look_put_ne hj] at e
      obtain ⟨u, e1, r1⟩ := h.val j q e
      exact ⟨u, by rw [List.getElem?_set_ne (Ne.symm hj)]; exact e1, r1⟩
  · by_cases hj : j = i
    · subst hj
      rw [look_put_same hi] at e
      cases e
    · rw [look_put_ne hj] at e
      obtain ⟨u, e1, r1⟩ := h.own j q e
      exact ⟨u, by rw [List.getElem?_set_ne (Ne.symm hj)]; exact e1, r1⟩
  · have hj : j ≠ i := fun z => by
      rw [z, look_put_same hi] at e1; cases e1
    have hl : l ≠ i := fun z => by
      rw [z, look_put_same hi] at e2; cases e2
    rw [look_put_ne hj] at e1
    rw [look_put_ne hl] at e2
    rw [List.getElem?_set_ne (Ne.symm hj)] at e3
    rw [List.getElem?_set_ne (Ne.symm hl)] at e4
    exact h.dif j l q q' a e1 e2 e3 e4
theorem EnvOk.clr {i : Nat} (h : EnvOk K F ρ H env σ) : EnvOk K F ρ H (Pv.put env i .no) (σ.set i none) := by
  have key : ∀ j s, look (Pv.put env i .no) j = s → s ≠ .no → j ≠ i ∧ look env j = s := fun j s e n => by
    by_cases hj : j = i
    · subst hj
      by_cases hi : j < env.length
      · rw [look_put_same hi] at e
        exact absurd e.symm n
      · have := look_len (env := Pv.put env j .no) (i := j) (by rw [e]; exact n)
        rw [put_len] at this
        exact absurd this hi
    · rw [look_put_ne hj] at e
      exact ⟨hj, e⟩
  refine ⟨by rw [put_len, List.length_set]; exact h.len, fun j q e => ?_, fun j q e => ?_, fun j l q q' a e1 e2 e3 e4 => ?_⟩
  · obtain ⟨hj, e⟩ := key j _ e (by simp)
    obtain ⟨u, e1, r1⟩ := h.val j q e
    exact ⟨u, by rw [List.getElem?_set_ne (Ne.symm hj)]; exact e1, r1⟩
  · obtain ⟨hj, e⟩ := key j _ e (by simp)
    obtain ⟨u, e1, r1⟩ := h.own j q e
    exact ⟨u, by rw [List.getElem?_set_ne (Ne.symm hj)]; exact e1, r1⟩
  · obtain ⟨hj, e1⟩ := key j _ e1 (by simp)
    obtain ⟨hl, e2⟩ := key l _ e2 (by simp)
    rw [List.getElem?_set_ne (Ne.symm hj)] at e3
    rw [List.getElem?_set_ne (Ne.symm hl)] at e4
    exact h.dif j l q q' a e1 e2 e3 e4
theorem EnvOk.wipe (h : EnvOk K F ρ H env σ) : ∀ vs : List Nat, EnvOk K F ρ H (wipeE env vs) (L2.wipe σ vs)
  | [] => h
  | _ :: vs => (EnvOk.wipe h vs).clr
end
theorem wipe_set (σ : L2.St) (i : Nat) (x : Option V) : ∀ vs : List Nat, (i ∈ vs → L2.wipe (σ.set i x) vs = L2.wipe σ vs) ∧ (i ∉ vs → L2.wipe (σ.set i x) vs = (L2.wipe σ vs).set i x)
  | [] => ⟨fun h => by simp at h, fun _ => rfl⟩
  | v :: vs => by
    obtain ⟨h1, h2⟩ := wipe_set σ i x vs
    constructor
    · intro h
      show (L2.wipe (σ.set i x) vs).set v none = (L2.wipe σ vs).set v none
      by_cases hm : i ∈ vs
      · rw [h1 hm]
      · have e : i = v := by
          rcases List.mem_cons.mp h with z | z
          · exact z
          · exact absurd z hm
        subst e
        rw [h2 hm, List.set_set]
    · intro h
      show (L2.wipe (σ.set i x) vs).set v none = ((L2.wipe σ vs).set v none).set i x
      rw [h2 fun z => h (List.mem_cons_of_mem _ z)]
      have hne : i ≠ v := fun e => h (by rw [e]; exact List.mem_cons_self)
      exact List.set_comm _ _ hne

/-! ### targets -/
def Gs.len : Gs → Nat
  | .nil => 0
  | .cons _ r => r.len + 1
mutual
def tgG (K : PySem.W.Frag) : G → TG
  | .name i => gName i
  | .tup gs => gTup K gs.len (tgGs K gs)
def tgGs (K : PySem.W.Frag) : Gs → TGs
  | .nil => gNil
  | .cons g r => gCons (tgG K g) (tgGs K r)
end
section
variable {C : Cq} {m : MC} {W : WX} {X : Cx}
theorem loc_of (O : XOk C m W X) {x : Str} (h : locB m x = true) : L2.Loc X.env.scope x ∧ (X.fn x = true ∨ X.env.scope.names.lookup x = some .local) := by
  unfold locB at h
  unfold L2.Loc
  rw [O.sc]
  split at h
  · rename_i e
    exact ⟨.inl e, .inr e⟩
  · rename_i e
    exact ⟨.inr e, .inl (O.fc x h)⟩
  · cases h
theorem asEach : ∀ {gs : Gs} {es : List Expr}, mtGs m gs es = true → (assignEach es X.env).length = gs.len ∧ (assignEach es X.env).findIdx? (·.1) = none
  | .nil, [], _ => ⟨rfl, rfl⟩
  | .nil, _ :: _, h => (Bool.false_ne_true h).elim
  | .cons _ _, [], h => (Bool.false_ne_true h).elim
  | .cons g r, e :: es, h => by
    have h : (mtG m g e && mtGs m r es) = true := h
    rw [Bool.and_eq_true] at h
    obtain ⟨i1, i2⟩ := asEach (gs := r) (es := es) h.2
    have hs : assignEach (e :: es) X.env = (false, assign e X.env) :: assignEach es X.env := by
      have h1 := h.1
      cases e <;> first | rfl | (cases g <;> exact (Bool.false_ne_true h1).elim)
    rw [hs]
    refine ⟨by simp [Gs.len, i1], ?_⟩
    rw [List.findIdx?_cons, i2]
    rfl
mutual
theorem pgG (O : XOk C m W X) : ∀ (g : G) (x : Expr), mtG m g x = true → PG X x (tgG C.K g)
  | .name i, x, h => by
    cases x with
    | Name x pos =>
      have h : (decide (m.N[i]? = some x) && locB m x) = true := h
      rw [Bool.and_eq_true] at h
      obtain ⟨l1, l2⟩ := loc_of O h.2
      exact pg_name (by rw [O.N]; exact O.nd) (by rw [O.N]; exact of_decide_eq_true h.1) l1 l2
    | _ => exact (Bool.false_ne_true h).elim
  | .tup gs, x, h => by
    cases x with
    | Tuple es k pos =>
      have h : mtGs m gs es = true := h
      obtain ⟨i1, i2⟩ := asEach (X := X) h
      have := pg_tup (k := k) (pos := pos) O.calm (pgGs O gs es h) i1 i2
      rw [O.K] at this
      exact this
    | _ => exact (Bool.false_ne_true h).elim
theorem pgGs (O : XOk C m W X) : ∀ (gs : Gs) (xs : List Expr), mtGs m gs xs = true → PGs X xs (tgGs C.K gs)
  | .nil, [], _ => pgs_nil
  | .nil, _ :: _, h => (Bool.false_ne_true h).elim
  | .cons _ _, [], h => (Bool.false_ne_true h).elim
  | .cons g r, e :: es, h => by
    have h : (mtG m g e && mtGs m r es) = true := h
    rw [Bool.and_eq_true] at h
    refine pgs_cons (pgG O g e h.1) (pgGs O r es h.2) ?_
    have h1 := h.1
    cases e <;> first | rfl | (cases g <;> exact (Bool.false_ne_true h1).elim)
end
end
section
variable {K : PySem.W.Frag} {F : Addr → Prop} {ρ : List Addr} {H : Hp}
theorem bindGs_len : ∀ (gs : Gs) (ps : List PV) (env env' : En), bindGs gs ps env = some env' → ps.length = gs.len
  | .nil, [], _, _, _ => rfl
  | .nil, _ :: _, _, _, h => by simp only [bindGs] at h; cases h
  | .cons _ _, [], _, _, h => by simp only [bindGs] at h; cases h
  | .cons g r, p :: ps, env, env', h => by
    simp only [bindGs] at h
    obtain ⟨e1, _, h2⟩ := Option.bind_eq_some_iff.mp h
    simp [Gs.len, bindGs_len r ps e1 env' h2]
mutual
theorem bindG_ok : ∀ (g : G) (v : V) (p : PV) (env env' : En) (σ : L2.St) (Q : L2.St → Hp → Prop), Rep K F ρ H v p → bindG g p env = some env' → EnvOk K F ρ H env σ →
    (∀ σ', EnvOk K F ρ H env' σ' → (∀ vs, (∀ i ∈ g.ix, i ∈ vs) → L2.wipe σ' vs = L2.wipe σ vs) → Q σ' H) → tgG K g v σ H Q
  | .name i, v, p, env, env', σ, Q, r, e, hE, q => by
    simp only [bindG] at e
    split at e
    · rename_i hi
      cases e
      exact q _ (hE.put hi r) fun vs h => (wipe_set σ i (some v) vs).1 (h i (by simp [G.ix]))
    · cases e
  | .tup gs, v, p, env, env', σ, Q, r, e, hE, q => by
    cases p with
    | tup ps =>
      cases r with
      | tup f s r =>
        have e : bindGs gs ps env = some env' := e
        obtain ⟨l, t⟩ := bindGs_ok gs _ ps env env' σ Q r e hE fun σ' h1 h2 => q σ' h1 h2
        exact ⟨_, _, rfl, .inl (.inl s), l, t⟩
    | _ => simp only [bindG] at e; cases e
theorem bindGs_ok : ∀ (gs : Gs) (vs : List V) (ps : List PV) (env env' : En) (σ : L2.St) (Q : L2.St → Hp → Prop), RepL K F ρ H vs ps → bindGs gs ps env = some env' → EnvOk K F ρ H env σ →
    (∀ σ', EnvOk K F ρ H env' σ' → (∀ vs, (∀ i ∈ gs.ix, i ∈ vs) → L2.wipe σ' vs = L2.wipe σ vs) → Q σ' H) → vs.length = gs.len ∧ tgGs K gs vs σ H Q
  | .nil, _, [], env, env', σ, Q, r, e, hE, q => by
    cases r
    simp only [bindGs, Option.some.injEq] at e
    subst e
    exact ⟨rfl, rfl, q σ hE fun _ _ => rfl⟩
  | .nil, _, _ :: _, env, env', σ, Q, r, e, hE, q => by simp only [bindGs] at e; cases e
  | .cons _ _, _, [], env, env', σ, Q, r, e, hE, q => by simp only [bindGs] at e; cases e
  | .cons g gr, _, p :: ps, env, env', σ, Q, r, e, hE, q => by
    cases r with
    | @cons v p' vs ps' a b =>
      simp only [bindGs] at e
      obtain ⟨env1, e1, e2⟩ := Option.bind_eq_some_iff.mp e
      have l : vs.length = gr.len := by
        rw [b.len]
        exact bindGs_len gr ps env1 env' e2
      refine ⟨by simp [Gs.len, l], v, vs, rfl, bindG_ok g v p env env1 σ _ a e1 hE fun σ1 h1 w1 => ?_⟩
      exact (bindGs_ok gr vs ps env1 env' σ1 Q b e2 h1 fun σ2 h2 w2 => q σ2 h2 fun ws hw => by
        rw [w2 ws fun i hi => hw i (by simp [Gs.ix, hi]), w1 ws fun i hi => hw i (by simp [Gs.ix, hi])]).2
end
end

/-! ### what is walked -/
/-- J goes over its, while what it leans on stands -/
def ItOk (K : PySem.W.Frag) (loop : Bool) (F : Addr → Prop) (ρ : List Addr) (H : Hp) (J : It) (its : List PV) : Prop :=
  its.length ≤ sizeLine ∧ ∃ g : Hp → Prop, g H ∧ (∀ F2 ρ2 H2, Ext F ρ H F2 ρ2 H2 → g H2) ∧ (loop = true → ∀ F2 ρ2 H2, Sx F ρ H F2 ρ2 H2 → g H2) ∧ (∀ i H2, i < its.length → g H2 → J.go i H2) ∧ (∀ H2, g H2 → J.stop its.length H2) ∧
    ∀ i F2 ρ2 H2 x H3 st, i < its.length → Sx F ρ H F2 ρ2 H2 → StoOk K F2 ρ2 H2 st → g H2 → J.yld i H2 x H3 → ∃ p F3, its[i]? = some p ∧ Ext F2 ρ2 H2 F3 ρ2 H3 ∧ StoOk K F3 ρ2 H3 st ∧ Rep K F3 ρ2 H3 x p
def RdI (C : Cq) (W : WX) (loop : Bool) (it : I) : TI := fun σ H R => ∃ F ρ env st, EnvOk C.K F ρ H env σ ∧ StoOk C.K F ρ H st ∧ PostG C.K W F ρ H σ (fun F' ρ' H' its => ∀ J, ItOk C.K loop F' ρ' H' J its → R J H') (evI C.Φ it env st)
/-- lists and tuples are below the line -/
def Szs (H : Hp) : Prop := ∀ a xs, (Rd H a (.lst xs) → xs.length ≤ sizeLine) ∧ (Rd H a (.tup xs) → xs.length ≤ sizeLine)
theorem szs_of {P : Program} {w : World} {H : Hp} {h : Heap} (x : HOk P w H h) : Szs H := fun a xs => ⟨fun r => (r.ok x).1, fun r => (r.ok x).1⟩
section
variable {C : Cq} {m : MC} {W : WX} {X : Cx}
theorem PEsz {x : Expr} {t : TE} (h : PE X x t) : PE X x (fun σ H Q => t σ H fun v H1 => Szs H1 → Q v H1) :=
  ⟨fun pins s σ H Q I q => thn (h.run pins s σ H _ I q) fun v s1 ⟨y, H1, I1, r1, q1⟩ => ⟨y, H1, I1, r1, q1 (szs_of I1.hok)⟩⟩
theorem PAsz {x : List Expr} {t : TA} (h : PA X x t) : PA X x (fun σ H Q => t σ H fun v H1 => Szs H1 → Q v H1) :=
  ⟨fun pos pins s σ H Q I q => thn (h.run pos pins s σ H _ I q) fun v s1 ⟨y, H1, I1, r1, q1⟩ => ⟨y, H1, I1, r1, q1 (szs_of I1.hok)⟩⟩
def iSq (K : PySem.W.Frag) (te : TE) : TI := fun σ H R => te σ H fun x H1 => ∃ a, x = .ref a ∧ ((∃ vs, Rd H1 a (.lst vs) ∧ R (Itl K a) H1) ∨ (∃ vs, Rd H1 a (.tup vs) ∧ R (Itt K a) H1))
theorem pi_sq {tg l : Expr} {tl : TE} (hl : PE X l tl) : PI X tg l (iSq X.K tl) := by
  refine ⟨fun pins s σ H R I h => ?_⟩
  refine thn (hl.run pins s σ H _ I h) fun v s1 ⟨x, H1, I1, r1, q1⟩ => ?_
  obtain ⟨a, e, q⟩ := q1
  subst e
  cases r1
  rcases q with ⟨vs, hq, q⟩ | ⟨vs, hq, q⟩
  · obtain ⟨its, rv, p, hz⟩ := I1.list (.inl hq)
    refine wpAny_pyIter_list p.isList ?_
    refine ⟨s1.heap.objs.size, [s1.heap.objs.size], _, _, H1, rfl, I1.kept (t' := s1.toks) fun b o e => Heap.get?_push_of_some _ e, turn_list a _, ⟨_, Heap.get?_push_size _ rfl, rfl, rfl⟩, fun b hb => ?_, q⟩
    have e : b = s1.heap.objs.size := by simpa using hb
    subst e
    exact I1.fpOk (Nat.le_refl _) (I1.hok.fresh (Nat.le_refl _))
  · obtain ⟨its, rv, p, hz⟩ := I1.tuple (.inl hq)
    refine wpAny_pyIter_tuple (show s1.heap.IsTuple a its.toArray from p) ?_
    refine ⟨s1.heap.objs.size, [s1.heap.objs.size], _, _, H1, rfl, I1.kept (t' := s1.toks) fun b o e => Heap.get?_push_of_some _ e, turn_tuple a _, ⟨_, Heap.get?_push_size _ rfl, rfl, rfl⟩, fun b hb => ?_, q⟩
    have e : b = s1.heap.objs.size := by simpa using hb
    subst e
    exact I1.fpOk (Nat.le_refl _) (I1.hok.fresh (Nat.le_refl _))
end
section
variable {K : PySem.W.Frag} {F : Addr → Prop} {ρ : List Addr} {H : Hp} {a : Addr} {vs : List V} {ps : List PV} {loop : Bool}
theorem itOk_tup (f : F a) (s : Rd H a (.tup vs)) (r : RepL K F ρ H vs ps) (sz : Szs H) (dis : ∀ a ∈ ρ, ¬ F a) : ItOk K loop F ρ H (Itt K a) ps := by
  have hl := r.len
  refine ⟨by rw [← hl]; exact (sz a vs).2 s, fun H2 => Rd H2 a (.tup vs), s, fun F2 ρ2 H2 e => rd_keep (fun o q => e.keep a o q fun m => dis a m f) s, fun _ F2 ρ2 H2 e => rd_keep (fun o q => e.keep a o f q) s, fun i H2 hi g => ?_, fun H2 g => ?_, fun i F2 ρ2 H2 x H3 st hi e sk g y => ?_⟩
  · exact walk_tup.goes i H2 (by omega) (.inl g)
  · rw [← hl]; exact walk_tup.stops H2 (.inl g)
  · obtain ⟨e1, e2⟩ := walk_tup.yields i H2 x H3 (by omega) (.inl g) y
    subst e1
    obtain ⟨p, h1, h2⟩ := r.get e2
    exact ⟨p, F2, h1, Ext.refl, sk, Rep.mono e p x h2⟩
theorem itOk_lst (s : H a = some (.lst vs)) (nr : a ∉ ρ) (f : loop = true → F a) (r : RepL K F ρ H vs ps) (sz : Szs H) : ItOk K loop F ρ H (Itl K a) ps := by
  have hl := r.len
  refine ⟨by rw [← hl]; exact (sz a vs).1 (.inl s), fun H2 => Rd H2 a (.lst vs), .inl s, fun F2 ρ2 H2 e => .inl (e.keep a _ s nr), fun lp F2 ρ2 H2 e => .inl (e.keep a _ (f lp) s), fun i H2 hi g => ?_, fun H2 g => ?_, fun i F2 ρ2 H2 x H3 st hi e sk g y => ?_⟩
  · exact walk_list.goes i H2 (by omega) (.inl g)
  · rw [← hl]; exact walk_list.stops H2 (.inl g)
  · obtain ⟨e1, e2⟩ := walk_list.yields i H2 x H3 (by omega) (.inl g) y
    subst e1
    obtain ⟨p, h1, h2⟩ := r.get e2
    exact ⟨p, F2, h1, Ext.refl, sk, Rep.mono e p x h2⟩
theorem itOk_fn {J : It} {n : Nat} {f : Nat → Int} (hn : n ≤ sizeLine) (go : ∀ i H2, i < n → J.go i H2) (stop : ∀ H2, J.stop n H2) (yld : ∀ i H2 x H3, J.yld i H2 x H3 → H3 = H2 ∧ x = .int (f i)) : ItOk K loop F ρ H J ((List.range n).map fun i => PV.int (f i)) := by
  refine ⟨by simpa using hn, fun _ => True, trivial, fun _ _ _ _ => trivial, fun _ _ _ _ _ => trivial, fun i H2 hi _ => go i H2 (by simpa using hi), fun H2 _ => by simpa using stop H2, fun i F2 ρ2 H2 x H3 st hi e sk _ y => ?_⟩
  obtain ⟨e1, e2⟩ := yld i H2 x H3 y
  subst e1 e2
  exact ⟨.int (f i), F2, by simp at hi; simp [hi], Ext.refl, sk, .int _⟩
theorem pairs_get : ∀ {xs ys : List PV} {i : Nat} {x y : PV}, xs[i]? = some x → ys[i]? = some y → (pairs2 xs ys)[i]? = some (.tup [x, y])
  | [], _, i, _, _, h, _ => by simp at h
  | _ :: _, [], i, _, _, _, h => by simp at h
  | a :: xs, b :: ys, 0, x, y, h1, h2 => by
    simp at h1 h2
    subst h1 h2
    rfl
  | a :: xs, b :: ys, i + 1, x, y, h1, h2 => by
    show (pairs2 xs ys)[i]? = _
    exact pairs_get (by simpa using h1) (by simpa using h2)
theorem pairs_len : ∀ (xs ys : List PV), (pairs2 xs ys).length = min xs.length ys.length
  | [], _ => by simp [pairs2]
  | _ :: _, [] => by simp [pairs2]
  | _ :: xs, _ :: ys => by
    show (pairs2 xs ys).length + 1 = _
    rw [pairs_len xs ys, List.length_cons, List.length_cons]
    omega
theorem enum_get : ∀ {xs : List PV} {n i : Nat} {x : PV}, xs[i]? = some x → (enumL n xs)[i]? = some (.tup [.int ((n + i : Nat) : Int), x])
  | [], _, i, _, h => by simp at h
  | a :: xs, n, 0, x, h => by simp at h; subst h; rfl
  | a :: xs, n, i + 1, x, h => by
    show (enumL (n + 1) xs)[i]? = _
    rw [enum_get (xs := xs) (n := n + 1) (by simpa using h), show n + 1 + i = n + (i + 1) by omega]
theorem enum_len : ∀ (xs : List PV) (n : Nat), (enumL n xs).length = xs.length
  | [], _ => rfl
  | _ :: xs, n => by show (enumL (n + 1) xs).length + 1 = _; rw [enum_len xs]; rfl
end
end Pv

/-! P8: readings of what is walked; comprehensions. -/
namespace Pv
open PySem PySem.Spec PyProof.Rows L2
section
variable {C : Cq} {m : MC} {W : WX} {X : Cx}
theorem PIimp {tg x : Expr} {t t' : TI} (h : PI X tg x t) (i : ∀ σ H R, t' σ H R → t σ H R) : PI X tg x t' := ⟨fun pins s σ H R I q => h.run pins s σ H R I (i σ H R q)⟩
/-- an operand of a walk: looked at, or kept where the walk is a loop's -/
def RdL0 (C : Cq) (W : WX) (loop : Bool) (e : E) : TE := if loop then RdX C W e else RdE C W e
theorem pe_L0 {loop : Bool} {e : E} {x : Expr} (ha : PE X x (RdE C W e)) (hl : loop = true → e.esc = true) : PE X x (RdL0 C W loop e) := by
  cases loop with
  | true => exact pe_X ha (hl rfl)
  | false => exact ha
/-- what such an operand is -/
def Vl (K : PySem.W.Frag) (loop : Bool) (F : Addr → Prop) (ρ : List Addr) (H : Hp) (v : V) (p : PV) : Prop := Vw K F ρ H v p ∧ (loop = true → Rep K F ρ H v p)
theorem vl_of {loop : Bool} {F : Addr → Prop} {ρ : List Addr} {H : Hp} {e : E} {σ : L2.St} {st : Sto} {env : En} {α : Type} {f : PV → M α} {G : (Addr → Prop) → List Addr → Hp → α → Prop} {R : V → Hp → Prop}
    (hE : EnvOk C.K F ρ H env σ) (hS : StoOk C.K F ρ H st) (h : PostG C.K W F ρ H σ G (M.bnd (evE C.Φ e env) f st))
    (g : ∀ p st1 F1 ρ1 H1 v1, Ext F ρ H F1 ρ1 H1 → StoOk C.K F1 ρ1 H1 st1 → EnvOk C.K F1 ρ1 H1 env σ → PostG C.K W F1 ρ1 H1 σ G (f p st1) → Vl C.K loop F1 ρ1 H1 v1 p → R v1 H1) : RdL0 C W loop e σ H R := by
  cases loop with
  | true => exact ⟨F, ρ, env, st, hE, hS, PostG.bnd h fun p st1 F1 ρ1 H1 e1 s1 p1 v1 r1 => g p st1 F1 ρ1 H1 v1 e1 s1 (hE.mono e1 hS.dis) p1 ⟨Rep.vw r1 s1.dis, fun _ => r1⟩⟩
  | false => exact ⟨F, ρ, env, st, hE, hS, PostG.bnd h fun p st1 F1 ρ1 H1 e1 s1 p1 v1 r1 => g p st1 F1 ρ1 H1 v1 e1 s1 (hE.mono e1 hS.dis) p1 ⟨r1.vw s1.dis, fun z => nomatch z⟩⟩
theorem Vl.mono {K : PySem.W.Frag} {loop : Bool} {F F' : Addr → Prop} {ρ ρ' : List Addr} {H H' : Hp} {v : V} {p : PV} (e : Ext F ρ H F' ρ' H') (dis : ∀ a ∈ ρ, ¬ F a) (h : Vl K loop F ρ H v p) : Vl K loop F' ρ' H' v p :=
  ⟨h.1.mono e dis, fun z => Rep.mono (e.sx dis) _ _ (h.2 z)⟩
theorem Vl.lst {K : PySem.W.Frag} {loop : Bool} {F : Addr → Prop} {ρ : List Addr} {H : Hp} {v : V} {ps : List PV} (h : Vl K loop F ρ H v (.lst ps)) : ∃ a vs, v = .ref a ∧ a ∉ ρ ∧ (loop = true → F a) ∧ H a = some (.lst vs) ∧ RepL K F ρ H vs ps := by
  obtain ⟨⟨a, vs, rfl, n, s, r⟩, h2⟩ := h
  refine ⟨a, vs, rfl, n, fun z => ?_, s, r⟩
  cases h2 z with
  | lst f _ _ => exact f
theorem rdI_val (O : XOk C m W X) {loop : Bool} {e : E} {x tg : Expr} (ha : PE X x (RdE C W e)) (hl : loop = true → e.esc = true) : PI X tg x (RdI C W loop (.val e)) := by
  refine PIimp (pi_sq (PEsz (pe_L0 ha hl))) fun σ H R ⟨F, ρ, env, st, hE, hS, p⟩ => ?_
  simp only [evI] at p
  refine vl_of hE hS p fun x st1 F1 ρ1 H1 v1 e1 s1 hE1 p1 r1 sz => ?_
  obtain ⟨its, ei, g⟩ := PostG.opt p1
  rw [O.K]
  cases x <;> simp only [seqOf] at ei <;> try cases ei
  · cases r1.1 with
    | tup f s r => exact ⟨_, rfl, .inr ⟨_, .inl s, g F1 ρ1 H1 Ext.refl s1 _ (itOk_tup f (.inl s) r sz s1.dis)⟩⟩
  · obtain ⟨a, vs, rfl, n, f, s, r⟩ := r1.lst
    exact ⟨_, rfl, .inl ⟨_, .inl s, g F1 ρ1 H1 Ext.refl s1 _ (itOk_lst s n f r sz)⟩⟩
theorem range_mem : (Str.ofString "range") ∈ bnames := by decide +kernel
theorem rdI_r1 (CO : CqOk C) (O : XOk C m W X) {loop : Bool} {a : E} {l : Expr} {p pos : Pos} {tg : Expr} (hg : glB m ("range" : Str) = true) (hp : isPl l = true) (ha : PE X l (RdE C W a)) :
    PI X tg (.Call (.Name ("range" : Str) p) [l] [] pos) (RdI C W loop (.r1 a)) := by
  obtain ⟨g1, g2, g3⟩ := gl_of O hg
  have hr := bt_of CO O range_mem
  have ll := lim_line
  refine PIimp (pi_range1 g1 hr (pa_cons ha pa_nil (star_of hp [] X.env)) (star_of hp [] X.env)) fun σ H R ⟨F, ρ, env, st, hE, hS, p⟩ => ?_
  simp only [evI] at p
  refine ⟨F, ρ, env, st, hE, hS, PostG.bnd p fun x st1 F1 ρ1 H1 e1 s1 p1 v1 r1 => ?_⟩
  obtain ⟨its, ei, g⟩ := PostG.opt p1
  cases x <;> simp only [range1] at ei <;> try cases ei
  split at ei <;> cases ei
  rename_i n hb
  have r1 := r1.vw s1.dis
  cases r1
  refine ⟨n, rfl, by omega, by omega, g F1 ρ1 H1 Ext.refl s1 _ ?_⟩
  exact itOk_fn (J := Itr 0 n.toNat) (n := n.toNat) (f := fun i => (i : Int)) (by omega) (fun i H2 hi => hi) (fun H2 => Nat.le_refl _) (fun i H2 x H3 y => ⟨y.1, by rw [y.2, Int.zero_add]⟩)
theorem rdI_r2 (CO : CqOk C) (O : XOk C m W X) {loop : Bool} {a b : E} {l r : Expr} {p pos : Pos} {tg : Expr} (hg : glB m ("range" : Str) = true) (hp : isPl l = true) (hp2 : isPl r = true) (ha : PE X l (RdE C W a)) (hb : PE X r (RdE C W b)) :
    PI X tg (.Call (.Name ("range" : Str) p) [l, r] [] pos) (RdI C W loop (.r2 a b)) := by
  obtain ⟨g1, g2, g3⟩ := gl_of O hg
  have hr := bt_of CO O range_mem
  have ll := lim_line
  refine PIimp (pi_range2 g1 hr (pa_cons ha (pa_cons hb pa_nil (star_of hp2 [] X.env)) (star_of hp [r] X.env)) (by rw [star_of hp, star_of hp2] <;> rfl) (by rw [star_of hp2] <;> rfl)) fun σ H R ⟨F, ρ, env, st, hE, hS, p⟩ => ?_
  simp only [evI] at p
  refine ⟨F, ρ, env, st, hE, hS, PostG.bnd p fun x st1 F1 ρ1 H1 e1 s1 p1 v1 r1 => ?_⟩
  refine ⟨F1, ρ1, env, st1, hE.mono e1 hS.dis, s1, PostG.bnd p1 fun y st2 F2 ρ2 H2 e2 s2 p2 v2 r2 => ?_⟩
  obtain ⟨its, ei, g⟩ := PostG.opt p2
  cases x <;> cases y <;> simp only [range2] at ei <;> try cases ei
  split at ei <;> cases ei
  rename_i i j hb
  have r1 := r1.vw s1.dis
  have r2 := r2.vw s2.dis
  cases r1; cases r2
  refine ⟨i, j, rfl, ⟨by omega, by omega, by omega, by omega⟩, g F2 ρ2 H2 Ext.refl s2 _ ?_⟩
  exact itOk_fn (J := Itr i (j - i).toNat) (n := (j - i).toNat) (f := fun k => i + (k : Int)) (by omega) (fun i H2 hi => hi) (fun H2 => Nat.le_refl _) (fun i H2 x H3 y => y)
theorem rdI_r3 (CO : CqOk C) (O : XOk C m W X) {loop : Bool} {a b c : E} {l r t : Expr} {p pos : Pos} {tg : Expr} (hg : glB m ("range" : Str) = true) (hp : isPl l = true) (hp2 : isPl r = true) (hp3 : isPl t = true) (ha : PE X l (RdE C W a)) (hb : PE X r (RdE C W b)) (hc : PE X t (RdE C W c)) :
    PI X tg (.Call (.Name ("range" : Str) p) [l, r, t] [] pos) (RdI C W loop (.r3 a b c)) := by
  obtain ⟨g1, g2, g3⟩ := gl_of O hg
  have hr := bt_of CO O range_mem
  have ll := lim_line
  refine PIimp (pi_range3 g1 hr (pa_cons ha (pa_cons hb (pa_cons hc pa_nil (star_of hp3 [] X.env)) (star_of hp2 [t] X.env)) (star_of hp [r, t] X.env)) (star_of hp _ _) (by rw [star_of hp2, star_of hp3] <;> rfl)) fun σ H R ⟨F, ρ, env, st, hE, hS, p⟩ => ?_
  simp only [evI] at p
  refine ⟨F, ρ, env, st, hE, hS, PostG.bnd p fun x st1 F1 ρ1 H1 e1 s1 p1 v1 r1 => ?_⟩
  have hE1 := hE.mono e1 hS.dis
  refine ⟨F1, ρ1, env, st1, hE1, s1, PostG.bnd p1 fun y st2 F2 ρ2 H2 e2 s2 p2 v2 r2 => ?_⟩
  refine ⟨F2, ρ2, env, st2, hE1.mono e2 s1.dis, s2, PostG.bnd p2 fun z st3 F3 ρ3 H3 e3 s3 p3 v3 r3 => ?_⟩
  obtain ⟨its, ei, g⟩ := PostG.opt p3
  cases x <;> cases y <;> cases z <;> simp only [range3] at ei <;> try cases ei
  split at ei <;> cases ei
  rename_i i j k hb
  have r1 := r1.vw s1.dis
  have r2 := r2.vw s2.dis
  have r3 := r3.vw s3.dis
  cases r1; cases r2; cases r3
  obtain ⟨rfl, hb⟩ := hb
  refine ⟨i, j, -1, (i - j).toNat, rfl, RgC.neg (by omega) (by omega) (by omega) (by omega), g F3 ρ3 H3 Ext.refl s3 _ ?_⟩
  exact itOk_fn (J := Itc i (-1) (i - j).toNat) (n := (i - j).toNat) (f := fun k => i - (k : Int)) (by omega) (fun i H2 hi => hi) (fun H2 => Nat.le_refl _) (fun q H2 x H3 y => ⟨y.1, by rw [y.2]; congr 1; omega⟩)

/-! ### zip, enumerate -/
theorem zipL_ok {K : PySem.W.Frag} {loop : Bool} {F : Addr → Prop} {ρ : List Addr} {H : Hp} {a b : Addr} {vs ws : List V} {ps qs : List PV} (s : H a = some (.lst vs)) (n : a ∉ ρ) (f : loop = true → F a) (r : RepL K F ρ H vs ps) (s' : H b = some (.lst ws)) (n' : b ∉ ρ) (f' : loop = true → F b) (r' : RepL K F ρ H ws qs)
    (sz : Szs H) : ItOk K loop F ρ H (Itz K a b) (pairs2 ps qs) := by
  have hl := r.len
  have hl' := r'.len
  have hm : min vs.length ws.length = (pairs2 ps qs).length := by rw [pairs_len, hl, hl']
  have w := walk_zip (K := K) (a := a) (b := b) (xs := vs) (ys := ws) hm.symm
  have l1 := (sz a vs).1 (.inl s)
  refine ⟨by omega, fun H2 => Rd H2 a (.lst vs) ∧ Rd H2 b (.lst ws), ⟨.inl s, .inl s'⟩, fun F2 ρ2 H2 e => ⟨.inl (e.keep a _ s n), .inl (e.keep b _ s' n')⟩, fun lp F2 ρ2 H2 e => ⟨.inl (e.keep a _ (f lp) s), .inl (e.keep b _ (f' lp) s')⟩, fun i H2 hi g => w.goes i H2 hi ⟨.inl g.1, .inl g.2⟩, fun H2 g => w.stops H2 ⟨.inl g.1, .inl g.2⟩, fun i F2 ρ2 H2 x H3 st hi e sk g y => ?_⟩
  obtain ⟨T, u, v, rfl, nT, rfl, hu, hv⟩ := w.yields i H2 x H3 hi ⟨.inl g.1, .inl g.2⟩ y
  obtain ⟨p, h1, h2⟩ := r.get hu
  obtain ⟨q, h3, h4⟩ := r'.get hv
  refine ⟨_, fun b => F2 b ∨ b = T, pairs_get h1 h3, Ext.layF nT, sk.layF nT, .tup (.inr rfl) upd_same ?_⟩
  exact RepL.layF (.cons (Rep.mono e p u h2) (.cons (Rep.mono e q v h4) .nil)) sk nT
theorem zipT_ok {K : PySem.W.Frag} {loop : Bool} {F : Addr → Prop} {ρ : List Addr} {H : Hp} {a b : Addr} {vs ws : List V} {ps qs : List PV} (f : F a) (s : Rd H a (.tup vs)) (r : RepL K F ρ H vs ps) (f' : F b) (s' : Rd H b (.tup ws)) (r' : RepL K F ρ H ws qs)
    (sz : Szs H) (dis : ∀ a ∈ ρ, ¬ F a) : ItOk K loop F ρ H (RZ.ItzT K a b) (pairs2 ps qs) := by
  have hl := r.len
  have hl' := r'.len
  have hm : min vs.length ws.length = (pairs2 ps qs).length := by rw [pairs_len, hl, hl']
  have l1 := (sz a vs).2 s
  refine ⟨by omega, fun H2 => Rd H2 a (.tup vs) ∧ Rd H2 b (.tup ws), ⟨s, s'⟩, fun F2 ρ2 H2 e => ⟨rd_keep (fun o q => e.keep a o q fun m => dis a m f) s, rd_keep (fun o q => e.keep b o q fun m => dis b m f') s'⟩,
    fun lp F2 ρ2 H2 e => ⟨rd_keep (fun o q => e.keep a o f q) s, rd_keep (fun o q => e.keep b o f' q) s'⟩, fun i H2 hi g => ?_, fun H2 g => ⟨vs, ws, .inl g.1, .inl g.2, by omega⟩, fun i F2 ρ2 H2 x H3 st hi e sk g y => ?_⟩
  · have h1 : i < vs.length := by omega
    have h2 : i < ws.length := by omega
    exact ⟨vs, ws, vs[i], ws[i], .inl g.1, .inl g.2, by simp [h1], by simp [h2]⟩
  · obtain ⟨T, u, v, rfl, nT, rfl, hu, hv⟩ := y
    obtain ⟨p, h1, h2⟩ := r.get (hu vs (.inl g.1))
    obtain ⟨q, h3, h4⟩ := r'.get (hv ws (.inl g.2))
    refine ⟨_, fun b => F2 b ∨ b = T, pairs_get h1 h3, Ext.layF nT, sk.layF nT, .tup (.inr rfl) upd_same ?_⟩
    exact RepL.layF (.cons (Rep.mono e p u h2) (.cons (Rep.mono e q v h4) .nil)) sk nT
theorem enumL_ok {K : PySem.W.Frag} {loop : Bool} {F : Addr → Prop} {ρ : List Addr} {H : Hp} {a : Addr} {vs : List V} {ps : List PV} (s : H a = some (.lst vs)) (n : a ∉ ρ) (f : loop = true → F a) (r : RepL K F ρ H vs ps) (sz : Szs H) : ItOk K loop F ρ H (Ite K a) (enumL 0 ps) := by
  have hl := r.len
  have hm : vs.length = (enumL 0 ps).length := by rw [enum_len, hl]
  have w := walk_enum (K := K) (a := a) (xs := vs)
  have l1 := (sz a vs).1 (.inl s)
  refine ⟨by omega, fun H2 => Rd H2 a (.lst vs), .inl s, fun F2 ρ2 H2 e => .inl (e.keep a _ s n), fun lp F2 ρ2 H2 e => .inl (e.keep a _ (f lp) s), fun i H2 hi g => w.goes i H2 (by omega) (.inl g), fun H2 g => by rw [← hm]; exact w.stops H2 (.inl g), fun i F2 ρ2 H2 x H3 st hi e sk g y => ?_⟩
  obtain ⟨T, u, v, rfl, nT, rfl, hu, hv⟩ := w.yields i H2 x H3 (by omega) (.inl g) y
  obtain ⟨q, h3, h4⟩ := r.get hv
  have h5 := enum_get (n := 0) h3
  rw [Nat.zero_add] at h5
  cases hu
  refine ⟨_, fun b => F2 b ∨ b = T, h5, Ext.layF nT, sk.layF nT, .tup (.inr rfl) upd_same ?_⟩
  exact RepL.layF (.cons (.int _) (.cons (Rep.mono e q v h4) .nil)) sk nT
/-! ### enumerate of a tuple -/
namespace En
open AutoSeq1 (wpAny_loadPart')
theorem new_tup (l : Addr) (items : Array Value) (n : Nat) (dct : Option Addr) (sl : Array (Option Value)) :
    Meets (Builtin.«enumerate.__new__» ⟨[.type "enumerate", .ref l], []⟩) (fun _ R s => s.heap.get? l = some { cls := .type "tuple", dict := dct, data := .seq items n, slots := sl } ∧
      R (.ok (.ret (.ref (s.heap.push { cls := .type "tuple_iterator", data := .fields #[.ref l, .int 0 0] }).objs.size)))
        { s with heap := (s.heap.push { cls := .type "tuple_iterator", data := .fields #[.ref l, .int 0 0] }).push { cls := .type "enumerate", data := .fields #[.none, .bool false, .ref s.heap.objs.size, rawInt 0, .none, .none] } }) :=
  .of_wp fun prog w A R s h => by
    obtain ⟨hp, g, d, tk, os⟩ := s; obtain ⟨hl, h⟩ := h
    have hsub := sub_enumerate
    have hL : Heap.IsTuple (Shared.heap ⟨hp, g, d, tk, os⟩) l items := ⟨_, hl, rfl, n, rfl⟩
    wp_walk using wpAny_loadPart' hl
    refine wpAny_stack_any fun st => wpAny_pure ?_
    split
    · rename_i c _ _ _ _ _
      cases (c == Value.type "enumerate")
      · wp_walk using wpAny_loadPart' hl, wpAny_pyIter_tuple hL
        exact ⟨_, rfl, h⟩
      · wp_walk using wpAny_loadPart' hl, wpAny_pyIter_tuple hL
        exact ⟨_, rfl, h⟩
    · wp_walk using wpAny_loadPart' hl, wpAny_pyIter_tuple hL
      exact ⟨_, rfl, h⟩
theorem call_tup {prog : Program} {w : World} {A : Around} {E : Value → Shared → Prop} {s : Shared} {l : Addr} {items : Array Value} {Q : Value → Shared → Prop} (hL : s.heap.IsTuple l items)
    (h : ∀ h', IsEnum h' (s.heap.objs.size + 1) s.heap.objs.size 0 .none → h'.IsTupleIter s.heap.objs.size l 0 → h'.objs.size = s.heap.objs.size + 2 →
      (∀ b o, s.heap.get? b = some o → h'.get? b = some o) → Q (.ref (s.heap.objs.size + 1)) { s with heap := h' }) :
    wpAny (model prog w) A (call (.type "enumerate") [.ref l]) Q E s := by
  obtain ⟨⟨c, dct, dt, sl⟩, hl, hc, n, hd⟩ := hL
  replace hc : c = .type "tuple" := hc
  replace hd : dt = .seq items n := hd
  subst hc hd
  refine callType_new F.called_enumerate (by decide) (F.typeCall_enumerate_1 _) (F.newCall_enumerate_1 _) (fun obj => F.args_object_init_2 obj _) F.entry_enumerate_new
    (new_tup l items n dct sl) ⟨hl, ?_⟩
  have hz : (s.heap.push { cls := .type "tuple_iterator", data := .fields #[.ref l, .int 0 0] }).objs.size = s.heap.objs.size + 1 := Heap.size_push ..
  show _ ∧ _
  rw [hz]
  have he : IsEnum ((s.heap.push { cls := .type "tuple_iterator", data := .fields #[.ref l, .int 0 0] }).push
      { cls := .type "enumerate", data := .fields #[.none, .bool false, .ref s.heap.objs.size, rawInt 0, .none, .none] }) (s.heap.objs.size + 1) s.heap.objs.size 0 .none := by
    have := Heap.get?_push_size (s.heap.push { cls := .type "tuple_iterator", data := .fields #[.ref l, .int 0 0] })
      (o := { cls := .type "enumerate", data := .fields #[.none, .bool false, .ref s.heap.objs.size, rawInt 0, .none, .none] }) rfl
    rw [hz] at this; exact this
  refine ⟨⟨_, he, rfl⟩, h _ he ⟨_, Heap.get?_push_of_some _ (Heap.get?_push_size _ rfl), rfl, rfl⟩ (by rw [Heap.size_push, hz]) fun b o x => Heap.get?_push_of_some _ (Heap.get?_push_of_some _ x)⟩
theorem endT {prog : Program} {w : World} {A : Around} {E : Value → Shared → Prop} {s : Shared} {e it l : Addr} {i : Nat} {j : Int} {items : Array Value} {old : Value} {Q : Option Value → Shared → Prop} (hh : A.handled = none)
    (he : IsEnum s.heap e it j old) (hit : s.heap.IsTupleIter it l i) (hl : s.heap.IsTuple l items) (hx : items[i]? = none)
    (hQ : ∀ h', Heap.ExtBut it s.heap h' → Q none { s with heap := h' }) : wpAny (model prog w) A (pyNext (.ref e)) Q E s := by
  have hT : s.TypeIs (.ref e) "enumerate" := ⟨_, he, rfl⟩
  unfold pyNext
  refine wpAny_bind (wpAny_attempt (wpAny_callSpecial?_slot (name := Str.ofString "__next__") hT F.slot_enumerate_next
    (wpAny_call_entry F.slot_enumerate_next hT F.entry_enumerate_next ?_ (F.args_enumerate_next_1 _))))
  show wpAny _ _ (field (.ref e) 2 >>= _) _ _ _
  refine wpAny_bind (wpAny_field he rfl (x := .ref it) rfl ?_)
  refine wpAny_bind (wpAny_nextOf_tuple_end hh hit hl hx fun h' x he' hx' => ?_)
  obtain ⟨o, ho, hc⟩ := hx'
  refine wpAny_bind (wpAny_isInstance (T := "StopIteration") (b := true) ⟨o, ho, hc⟩ isSubtype_stop ?_)
  exact wpAny_pure (hQ _ he')
/-- the tuple at a, each item in a new pair -/
def IteT (K : PySem.W.Frag) (a : Addr) : It :=
  ⟨fun i H => ∃ (xs : List V) (x : V), SqT K H a xs ∧ xs[i]? = some x, fun i H v H' => ∃ T x, v = .ref T ∧ H T = none ∧ H' = upd H T (.tup [.int (i : Nat), x]) ∧ ∀ xs, SqT K H a xs → xs[i]? = some x, fun i H => ∃ xs : List V, SqT K H a xs ∧ xs.length ≤ i⟩
theorem turn_tup {P : Program} {w : World} {K : PySem.W.Frag} {elts : List Expr} {kk : Nat} {tpos : Pos} (a e it : Addr) :
    Turn P w K (.Tuple elts kk tpos) (IteT K a) [e, it] e (fun i h => (∃ old, IsEnum h e it ((i : Nat) : Int) old) ∧ h.IsTupleIter it a i ∧ e ≠ it) where
  mem := by simp
  obj := fun i h st b hb => by
    obtain ⟨⟨old, he⟩, ⟨o, ho, hc, hd⟩, _⟩ := st
    have e' : b = e ∨ b = it := by simpa using hb
    rcases e' with z | z
    · rw [z]; exact ⟨_, he, fun v q => nomatch q⟩
    · rw [z]; exact ⟨o, ho, fun v q => by rw [hd] at q; cases q⟩
  keep := fun i h h' st k => let ⟨⟨old, he⟩, hi, hne⟩ := st; ⟨⟨old, k e (by simp) _ he⟩, hi.at fun o q => k it (by simp) o q, hne⟩
  item := by
    intro X hP hw hK hc i pins s σ H E I hf st hg
    subst hP hw hK
    obtain ⟨⟨old, he⟩, hit, hne⟩ := st
    obtain ⟨xs, x, hq, hx⟩ := hg
    obtain ⟨its, rv, p, hz⟩ := I.tuple hq
    obtain ⟨u, hu, ru⟩ := rv.get hx
    have hel : e < s.heap.objs.size := Heap.lt_size he
    have hil : it < s.heap.objs.size := by obtain ⟨_, q, _⟩ := hit; exact Heap.lt_size q
    have hae : e ≠ a := fun z => by
      obtain ⟨o, ho, hc', _⟩ := p
      rw [← z, he] at ho
      cases ho
      exact absurd (Value.type.inj hc') (by decide)
    have hai : a ≠ it := fun z => by
      obtain ⟨o, ho, hc', _⟩ := p
      obtain ⟨o2, ho2, hc2, _⟩ := hit
      rw [z, ho2] at ho
      cases ho
      rw [hc2] at hc'
      exact absurd (Value.type.inj hc') (by decide)
    have hlt : i < its.toArray.size := by
      rw [List.size_toArray]
      exact (List.getElem?_eq_some_iff.mp hu).1
    refine wpAny_pyNext_enum_itemD (Draws.tuple (A := X.A.in1) (I.ok.hd hc) it a hai its.toArray) he ⟨hit, p⟩ hlt hne (by simp [hne, hae]) fun y h' tk hP ho hst hT hsz hk => ?_
    have ey : y = u := by
      have : its.toArray[i]? = some y := hP
      rw [List.getElem?_toArray, hu] at this
      exact (Option.some.inj this).symm
    subst ey
    refine ⟨_, rfl, wpAny_letOwnedTupleGo_enum (s := { s with heap := h', toks := tk + 1 }) ho fun h'' he' sb => ?_⟩
    have hT2 : h''.get? s.heap.objs.size = some { cls := .type "tuple", data := .seq #[.int i tk, y] } := (sb.2 _ (Nat.ne_of_gt hel)).trans hT
    have new : ObjOk X.prog X.w (upd H s.heap.objs.size (.tup [.int (i : Nat), x])) h'' s.heap.objs.size (.tup [.int (i : Nat), x]) :=
      ⟨by show 2 ≤ sizeLine; decide, [.int i tk, y], .cons ⟨_, rfl⟩ (.cons ru .nil), ⟨_, hT2, rfl, _, rfl⟩⟩
    have I1 : Inv X pins σ (upd H s.heap.objs.size (.tup [.int (i : Nat), x])) { s with heap := h'', toks := tk + 1 } :=
      I.turnedNew (ch := [e, it]) (fun b ob hb q => (sb.2 b (fun z => hb (by simp [z]))).trans (hk b ob (fun z => hb (by simp [z])) (fun z => hb (by simp [z])) q)) hf (Nat.le_refl _) new
    refine ⟨.ref s.heap.objs.size, _, I1, rfl, ⟨_, x, rfl, I.hok.fresh (Nat.le_refl _), rfl, fun ys hy => by rw [I.tuple_inj hy hq]; exact hx⟩, ⟨⟨y, ?_⟩, hst.1.at fun o q => (sb.2 it (Ne.symm hne)).trans q, hne⟩, fun b hb => ?_⟩
    · have e1 : ((i + 1 : Nat) : Int) = (i : Int) + 1 := by omega
      rw [e1]; exact he'
    · have hb' : b < s.heap.objs.size := by
        have e' : b = e ∨ b = it := by simpa using hb
        rcases e' with z | z
        · rw [z]; exact hel
        · rw [z]; exact hil
      rw [upd_ne (Nat.ne_of_lt hb')]
      exact (hf b hb).1
  done := by
    intro X hP hw hK hc i pins s σ H E I hf st hg
    subst hP hw hK
    obtain ⟨⟨old, he⟩, hit, hne⟩ := st
    obtain ⟨xs, hq, hx⟩ := hg
    obtain ⟨its, rv, p, hz⟩ := I.tuple hq
    obtain ⟨f0, f1, f2, f3, f4, f5⟩ := hf it (by simp)
    have hl := rv.length
    exact endT (I.ok.hd hc) he hit p (by simp; omega) fun h' eb => ⟨rfl, I.turned (t' := s.toks) (fun b o hb q => eb b o hb q) f0 f1 f3 f4 f5⟩
  self := fun A i s Q E st h => let ⟨⟨_, he⟩, _⟩ := st; wpAny_pyIter_enum he h
def iEnum2 (K : PySem.W.Frag) (ta : TA) : TI := fun σ H R => ta σ H fun vs H1 => ∃ a xs, vs = [.ref a] ∧ ((SqL K H1 a xs ∧ R (Ite K a) H1) ∨ (SqT K H1 a xs ∧ R (IteT K a) H1))
theorem pi_enum2 {X : Cx} {e : Expr} {ta : TA} {p pos tpos : Pos} {elts : List Expr} {kk : Nat} (hg : Gl X "enumerate") (hm : X.mg "enumerate" = none) (ha : PA X [e] ta) (hs : starEach [e] X.env = [(false, eval e X.env)] := by rfl) :
    PI X (.Tuple elts kk tpos) (.Call (.Name "enumerate" p) [e] [] pos) (iEnum2 X.K ta) := by
  refine ⟨fun pins s σ H R I h => ?_⟩
  refine Call_ (ld_blt I hg hm boot_enumerate (PyProof.Rows.callWith_type1 (thn (ha.run pos pins s σ H _ I h) fun us s1 ⟨vs, H1, I1, r1, q1⟩ => ?_) hs rfl))
  obtain ⟨a, xs, ex, hq⟩ := q1
  subst ex
  cases r1 with
  | cons r rr =>
    cases rr
    cases r
    have fp : ∀ b, b ∈ [s1.heap.objs.size + 1, s1.heap.objs.size] → s1.heap.objs.size ≤ b := fun b hb => by
      have e' : b = s1.heap.objs.size + 1 ∨ b = s1.heap.objs.size := by simpa using hb
      rcases e' with z | z
      · rw [z]; exact Nat.le_add_right _ _
      · rw [z]; exact Nat.le_refl _
    rcases hq with ⟨hq, q⟩ | ⟨hq, q⟩
    · obtain ⟨its, rv, p', hz⟩ := I1.list hq
      refine call_enumerate_list p'.isList fun h' he hit hsz hk => wpAny_pyIter_enum he ?_
      have I2 : Inv X pins σ H1 { s1 with heap := h' } := I1.kept (t' := s1.toks) hk
      exact ⟨s1.heap.objs.size + 1, [s1.heap.objs.size + 1, s1.heap.objs.size], _, _, H1, rfl, I2, turn_enum a (s1.heap.objs.size + 1) s1.heap.objs.size, ⟨⟨.none, he⟩, hit, Nat.succ_ne_self _⟩, fun b hb => I1.fpOk (fp b hb) (I1.hok.fresh (fp b hb)), q⟩
    · obtain ⟨its, rv, p', hz⟩ := I1.tuple hq
      refine call_tup p' fun h' he hit hsz hk => wpAny_pyIter_enum he ?_
      have I2 : Inv X pins σ H1 { s1 with heap := h' } := I1.kept (t' := s1.toks) hk
      exact ⟨s1.heap.objs.size + 1, [s1.heap.objs.size + 1, s1.heap.objs.size], _, _, H1, rfl, I2, turn_tup a (s1.heap.objs.size + 1) s1.heap.objs.size, ⟨⟨.none, he⟩, hit, Nat.succ_ne_self _⟩, fun b hb => I1.fpOk (fp b hb) (I1.hok.fresh (fp b hb)), q⟩
theorem enumT_ok {K : PySem.W.Frag} {loop : Bool} {F : Addr → Prop} {ρ : List Addr} {H : Hp} {a : Addr} {vs : List V} {ps : List PV} (f : F a) (s : Rd H a (.tup vs)) (r : RepL K F ρ H vs ps) (sz : Szs H) (dis : ∀ a ∈ ρ, ¬ F a) : ItOk K loop F ρ H (IteT K a) (enumL 0 ps) := by
  have hl := r.len
  have hm : vs.length = (enumL 0 ps).length := by rw [enum_len, hl]
  have l1 := (sz a vs).2 s
  refine ⟨by omega, fun H2 => Rd H2 a (.tup vs), s, fun F2 ρ2 H2 e => rd_keep (fun o q => e.keep a o q fun m => dis a m f) s, fun lp F2 ρ2 H2 e => rd_keep (fun o q => e.keep a o f q) s, fun i H2 hi g => ?_, fun H2 g => ⟨vs, .inl g, by omega⟩, fun i F2 ρ2 H2 x H3 st hi e sk g y => ?_⟩
  · have h1 : i < vs.length := by omega
    exact ⟨vs, vs[i], .inl g, by simp [h1]⟩
  · obtain ⟨T, v, rfl, nT, rfl, hv⟩ := y
    obtain ⟨q, h3, h4⟩ := r.get (hv vs (.inl g))
    have h5 := enum_get (n := 0) h3
    rw [Nat.zero_add] at h5
    refine ⟨_, fun b => F2 b ∨ b = T, h5, Ext.layF nT, sk.layF nT, .tup (.inr rfl) upd_same ?_⟩
    exact RepL.layF (.cons (.int _) (.cons (Rep.mono e q v h4) .nil)) sk nT
end En
theorem rdI_zip (CO : CqOk C) (O : XOk C m W X) {loop : Bool} {a b : E} {l r : Expr} {p pos tpos : Pos} {elts : List Expr} {kk : Nat} (hg : glB m ("zip" : Str) = true) (hp : isPl l = true) (hp2 : isPl r = true) (ha : PE X l (RdE C W a)) (hb : PE X r (RdE C W b))
    (la : loop = true → a.esc = true) (lb : loop = true → b.esc = true) : PI X (.Tuple elts kk tpos) (.Call (.Name ("zip" : Str) p) [l, r] [] pos) (RdI C W loop (.zip a b)) := by
  obtain ⟨g1, g2, g3⟩ := gl_of O hg
  have hr := bt_of CO O (show (Str.ofString "zip") ∈ bnames by decide +kernel)
  refine PIimp (RZ.pi_zipA g1 hr (PAsz (pa_cons (pe_L0 ha la) (pa_cons (pe_L0 hb lb) pa_nil (star_of hp2 [] X.env)) (star_of hp [r] X.env))) (star_of hp _ _) (by rw [star_of hp2] <;> rfl)) fun σ H R ⟨F, ρ, env, st, hE, hS, p⟩ => ?_
  simp only [evI] at p
  refine vl_of hE hS p fun x st1 F1 ρ1 H1 v1 e1 s1 hE1 p1 r1 => ?_
  refine vl_of hE1 s1 p1 fun y st2 F2 ρ2 H2 v2 e2 s2 hE2 p2 r2 sz => ?_
  obtain ⟨its, ei, g⟩ := PostG.opt p2
  have r1 := r1.mono e2 s1.dis
  rw [O.K]
  cases x <;> cases y <;> simp only [zipP] at ei <;> try cases ei
  · cases r1.1 with
    | tup f s t =>
    cases r2.1 with
    | tup f' s' t' =>
    exact ⟨_, _, _, _, rfl, .inr ⟨.inl (.inl s), .inl (.inl s'), g F2 ρ2 H2 Ext.refl s2 _ (zipT_ok f (.inl s) t f' (.inl s') t' sz s2.dis)⟩⟩
  · obtain ⟨a1, vs, rfl, n, f, s, t⟩ := r1.lst
    obtain ⟨b1, ws, rfl, n', f', s', t'⟩ := r2.lst
    exact ⟨_, _, _, _, rfl, .inl ⟨SqL.of s, SqL.of s', g F2 ρ2 H2 Ext.refl s2 _ (zipL_ok s n f t s' n' f' t' sz)⟩⟩
theorem rdI_enum (CO : CqOk C) (O : XOk C m W X) {loop : Bool} {a : E} {l : Expr} {p pos tpos : Pos} {elts : List Expr} {kk : Nat} (hg : glB m ("enumerate" : Str) = true) (hp : isPl l = true) (ha : PE X l (RdE C W a))
    (la : loop = true → a.esc = true) : PI X (.Tuple elts kk tpos) (.Call (.Name ("enumerate" : Str) p) [l] [] pos) (RdI C W loop (.enum a)) := by
  obtain ⟨g1, g2, g3⟩ := gl_of O hg
  have hr := bt_of CO O (show (Str.ofString "enumerate") ∈ bnames by decide +kernel)
  refine PIimp (En.pi_enum2 g1 hr (PAsz (pa_cons (pe_L0 ha la) pa_nil (star_of hp [] X.env))) (star_of hp _ _)) fun σ H R ⟨F, ρ, env, st, hE, hS, p⟩ => ?_
  simp only [evI] at p
  refine vl_of hE hS p fun x st1 F1 ρ1 H1 v1 e1 s1 hE1 p1 r1 sz => ?_
  obtain ⟨its, ei, g⟩ := PostG.opt p1
  rw [O.K]
  cases x <;> simp only [enumP] at ei <;> try cases ei
  · cases r1.1 with
    | tup f s t => exact ⟨_, _, rfl, .inr ⟨.inl (.inl s), g F1 ρ1 H1 Ext.refl s1 _ (En.enumT_ok f (.inl s) t sz s1.dis)⟩⟩
  · obtain ⟨a1, vs, rfl, n, f, s, t⟩ := r1.lst
    exact ⟨_, _, rfl, .inl ⟨SqL.of s, g F1 ρ1 H1 Ext.refl s1 _ (enumL_ok s n f t sz)⟩⟩
/-! ### tuple(range(..)), list(range(..)) -/
theorem kd_rg1 (t : Bool) (a : E) : (E.rg1 t a).kind = if t then .pl else .fr := by cases t <;> rfl
theorem kd_rg2 (t : Bool) (a b : E) : (E.rg2 t a b).kind = if t then .pl else .fr := by cases t <;> rfl
theorem rep_rg {K : PySem.W.Frag} {F : Addr → Prop} {ρ : List Addr} {H : Hp} (n : Nat) (f : Nat → Int) : RepL K F ρ H ((List.range n).map fun i => V.int (f i)) ((List.range n).map fun i => PV.int (f i)) := by
  have := rep_ints (K := K) (F := F) (ρ := ρ) (H := H) ((List.range n).map f)
  rw [List.map_map, List.map_map] at this
  exact this
theorem fin_rg {F : Addr → Prop} {ρ : List Addr} {H0 H : Hp} {st : Sto} {Q : VK} {kd : Kd} {vs : List V} {ps : List PV} (t : Bool) (hk : kd = if t then .pl else .fr) (s : StoOk C.K F ρ H st) (tr : ∀ a, H a = none → H0 a = none) (r : RepL C.K F ρ H vs ps)
    (g : ∀ F' ρ' H', Ext F ρ H F' ρ' H' → StoOk C.K F' ρ' H' st → GV C.K kd H0 Q F' ρ' H' ((if t then PV.tup else PV.lst) ps)) : ∀ a, H a = none → Q (.ref a) (upd H a ((if t then HO.tup else HO.lst) vs)) := fun a n => by
  cases t with
  | true =>
    subst hk
    exact g _ _ _ (Ext.layF n) (s.layF n) _ (.tup (.inr rfl) upd_same (r.layF s n))
  | false =>
    subst hk
    exact g F ρ (upd H a (.lst vs)) (Ext.lay n) (s.lay n) _ ⟨⟨a, vs, rfl, s.nin n, upd_same, r.lay s n⟩, a, ps, rfl, rfl, tr a n, s.nf n, s.nin n⟩
theorem rd_rg1 (CO : CqOk C) (O : XOk C m W X) {t : Bool} {a : E} {l : Expr} {p p2 p3 pos : Pos} (hg : glB m (bfN (if t then .tuple else .list)) = true) (hg2 : glB m ("range" : Str) = true) (hp : isPl l = true) (ha : PE X l (RdE C W a)) :
    PE X (.Call (.Name (bfN (if t then .tuple else .list)) p) [.Call (.Name ("range" : Str) p2) [l] [] p3] [] pos) (RdE C W (.rg1 t a)) := by
  obtain ⟨g1, _, _⟩ := gl_of O hg
  obtain ⟨g2, _, _⟩ := gl_of O hg2
  have hr := bt_of CO O range_mem
  have hb := bt_of CO O (bf_mem (if t then .tuple else .list))
  have ll := lim_line
  have key : ∀ σ H Q, RdE C W (.rg1 t a) σ H Q → RdE C W a σ H fun x H1 => ∃ n, x = .int n ∧ RgOk 0 n ∧ ∀ q, H1 q = none → Q (.ref q) (upd H1 q ((if t then HO.tup else HO.lst) (rgV 0 n))) := fun σ H Q ⟨F, ρ, env, st, hE, hS, p⟩ => by
    simp only [evE] at p
    refine ⟨F, ρ, env, st, hE, hS, PostG.bnd p fun x st1 F1 ρ1 H1 e1 s1 p1 v1 r1 => ?_⟩
    obtain ⟨r, er0, g⟩ := PostG.opt p1
    obtain ⟨its, er, er1⟩ := Option.map_eq_some_iff.mp er0
    clear er0
    subst er1
    cases x <;> simp only [range1] at er <;> try cases er
    split at er <;> cases er
    rename_i n hb
    have r1 := r1.vw s1.dis
    cases r1
    refine ⟨n, rfl, ⟨by omega, by omega, by omega, by omega, by omega⟩, fin_rg (kd := (E.rg1 t a).kind) t (kd_rg1 t a) s1 e1.track ?_ g⟩
    have h := rep_rg (K := C.K) (F := F1) (ρ := ρ1) (H := H1) n.toNat fun i => (i : Int)
    unfold rgV
    rw [Int.sub_zero]
    simp only [Int.zero_add]
    exact h
  cases t with
  | true => exact PEimp (pe_tupRg O.calm g1 hb (prg_1 g2 hr ha (star_of hp [] X.env))) fun σ H Q q => key σ H Q q
  | false => exact PEimp (pe_listRg O.calm g1 hb (prg_1 g2 hr ha (star_of hp [] X.env))) fun σ H Q q => key σ H Q q
theorem rd_rg2 (CO : CqOk C) (O : XOk C m W X) {t : Bool} {a b : E} {l r : Expr} {p p2 p3 pos : Pos} (hg : glB m (bfN (if t then .tuple else .list)) = true) (hg2 : glB m ("range" : Str) = true) (hp : isPl l = true) (hp2 : isPl r = true) (ha : PE X l (RdE C W a)) (hb : PE X r (RdE C W b)) :
    PE X (.Call (.Name (bfN (if t then .tuple else .list)) p) [.Call (.Name ("range" : Str) p2) [l, r] [] p3] [] pos) (RdE C W (.rg2 t a b)) := by
  obtain ⟨g1, _, _⟩ := gl_of O hg
  obtain ⟨g2, _, _⟩ := gl_of O hg2
  have hr := bt_of CO O range_mem
  have hbb := bt_of CO O (bf_mem (if t then .tuple else .list))
  have ll := lim_line
  have key : ∀ σ H Q, RdE C W (.rg2 t a b) σ H Q → RdE C W a σ H fun x H1 => RdE C W b σ H1 fun y H2 => ∃ i j, x = .int i ∧ y = .int j ∧ RgOk i j ∧ ∀ q, H2 q = none → Q (.ref q) (upd H2 q ((if t then HO.tup else HO.lst) (rgV i j))) := fun σ H Q ⟨F, ρ, env, st, hE, hS, p⟩ => by
    simp only [evE] at p
    refine ⟨F, ρ, env, st, hE, hS, PostG.bnd p fun x st1 F1 ρ1 H1 e1 s1 p1 v1 r1 => ?_⟩
    refine ⟨F1, ρ1, env, st1, hE.mono e1 hS.dis, s1, PostG.bnd p1 fun y st2 F2 ρ2 H2 e2 s2 p2 v2 r2 => ?_⟩
    obtain ⟨r, er0, g⟩ := PostG.opt p2
    obtain ⟨its, er, er1⟩ := Option.map_eq_some_iff.mp er0
    clear er0
    subst er1
    cases x <;> cases y <;> simp only [range2] at er <;> try cases er
    split at er <;> cases er
    rename_i i j hb
    have r1 := r1.vw s1.dis
    have r2 := r2.vw s2.dis
    cases r1; cases r2
    exact ⟨i, j, rfl, rfl, ⟨by omega, by omega, by omega, by omega, by omega⟩, fin_rg (kd := (E.rg2 t a b).kind) t (kd_rg2 t a b) s2 (fun c hc => e1.track c (e2.track c hc)) (rep_rg _ _) g⟩
  cases t with
  | true => exact PEimp (pe_tupRg O.calm g1 hbb (prg_2 g2 hr ha hb (star_of hp [r] X.env) (star_of hp2 [] X.env) (by rw [star_of hp2] <;> rfl))) fun σ H Q q => key σ H Q q
  | false => exact PEimp (pe_listRg O.calm g1 hbb (prg_2 g2 hr ha hb (star_of hp [r] X.env) (star_of hp2 [] X.env) (by rw [star_of hp2] <;> rfl))) fun σ H Q q => key σ H Q q
end
end Pv

/-! P9: comprehensions; every expression that matches keeps its reading. -/
namespace Pv
open PySem PySem.Spec PyProof.Rows L2
abbrev W0 : WX := fun _ _ _ _ => False
section
variable {C : Cq} {m : MC} {W : WX} {X : Cx}
theorem XOk.blk (O : XOk C m W X) (scope : Scope) (s : Shared) (H : Hp) (Cc : Addr) (cl : List (Str × Addr)) (fp : List Addr) : XOk C (m.blk scope) W0 (X.blk s H scope (PySem.compEnvC scope cl Cc X.env) fp) :=
  ⟨O.prog, O.w, O.K, O.mg, O.base, O.N, O.nd, by
    show L2.relS scope X.env.scope = L2.relS scope m.sc
    rw [O.sc], O.calm, O.room, fun x h => h, takes0, O.ds, O.gi⟩
theorem PostG.noxb {α β : Type} {K : PySem.W.Frag} {W W' : WX} {F : Addr → Prop} {ρ : List Addr} {H : Hp} {σ σ' : L2.St} {st : Sto} {m : M α} {f : α → M β} {G : (Addr → Prop) → List Addr → Hp → β → Prop} {G1 : (Addr → Prop) → List Addr → Hp → α → Prop} (h : PostG K W F ρ H σ G (M.nox (M.bnd m f) st))
    (g : ∀ a st1 F1 ρ1 H1, Ext F ρ H F1 ρ1 H1 → StoOk K F1 ρ1 H1 st1 → PostG K W F1 ρ1 H1 σ G (M.nox (f a) st1) → G1 F1 ρ1 H1 a) : PostG K W' F ρ H σ' G1 (m st) := by
  unfold M.nox M.bnd at h
  cases e : m st with
  | ok a st1 =>
    rw [e] at h
    exact fun F' ρ' H' e' s => g a st1 F' ρ' H' e' s (PostG.mono e' h fun _ _ _ _ _ z => z)
  | exn x st1 =>
    rw [e] at h
    exact h.elim
  | bad =>
    rw [e] at h
    exact h.elim
/-- nox is kept from a computation's head to its rest -/
theorem nox_bnd {α β γ : Type} (m : M α) (f : α → M β) (k : β → M γ) (st : Sto) : M.bnd (M.nox (M.bnd m f)) k st = match m st with
    | .ok a st1 => M.bnd (M.nox (f a)) k st1
    | _ => .bad := by
  show (match M.nox (M.bnd m f) st with | .ok a st' => k a st' | .exn x st' => .exn x st' | .bad => .bad) = _
  unfold M.nox M.bnd
  cases e : m st with
  | ok a st1 => rfl
  | exn x st1 => rfl
  | bad => rfl
/-- the step of a comprehension's rest: what is wanted at the end speaks of an older world -/
theorem PostG.rest {α β γ : Type} {K : PySem.W.Frag} {W W' : WX} {Fz F : Addr → Prop} {ρz ρ : List Addr} {Hz H : Hp} {σ σ' : L2.St} {st : Sto} {m : M α} {f : α → M β} {k : β → M γ} {G : (Addr → Prop) → List Addr → Hp → γ → Prop} {G1 : (Addr → Prop) → List Addr → Hp → α → Prop}
    (h : PostG K W Fz ρz Hz σ G (M.bnd (M.nox (M.bnd m f)) k st))
    (g : ∀ a st1 F1 ρ1 H1, Ext F ρ H F1 ρ1 H1 → StoOk K F1 ρ1 H1 st1 → PostG K W Fz ρz Hz σ G (M.bnd (M.nox (f a)) k st1) → G1 F1 ρ1 H1 a) : PostG K W' F ρ H σ' G1 (m st) := by
  rw [nox_bnd] at h
  cases e : m st with
  | ok a st1 =>
    rw [e] at h
    exact fun F' ρ' H' e' s => g a st1 F' ρ' H' e' s h
  | exn x st1 => rw [e] at h; exact h.elim
  | bad => rw [e] at h; exact h.elim
theorem bnd_assoc {α β γ : Type} (m : M α) (f : α → M β) (g : β → M γ) : M.bnd (M.bnd m f) g = M.bnd m fun a => M.bnd (f a) g := by
  funext st
  unfold M.bnd
  cases m st <;> rfl
theorem bnd_ret {α β : Type} (a : α) (f : α → M β) : M.bnd (M.ret a) f = f a := rfl
/-- an object of one's own is written -/
theorem Ext.own {F F' : Addr → Prop} {ρ ρ' : List Addr} {H H' : Hp} {D : Addr} {o : HO} (e : Ext F ρ H F' ρ' H') (n : H D = none) : Ext F ρ H F' ρ' (upd H' D o) :=
  ⟨e.sub, e.new, fun a u h k => by rw [upd_ne (ne_of_none h n)]; exact e.keep a u h k, fun a h => by
    by_cases hd : a = D
    · rw [hd]; exact n
    · rw [upd_ne hd] at h; exact e.track a h, e.cel, e.celn⟩
theorem sx_own {F : Addr → Prop} {ρ : List Addr} {H : Hp} {D : Addr} {o : HO} (nf : ¬ F D) : Sx F ρ H F ρ (upd H D o) :=
  ⟨fun _ h => h, fun a u f h => by rw [upd_ne (show a ≠ D from fun z => nf (by rw [← z]; exact f))]; exact h, fun _ _ h => h⟩
theorem StoOk.own {K : PySem.W.Frag} {F : Addr → Prop} {ρ : List Addr} {H : Hp} {st : Sto} {D : Addr} {o : HO} (s : StoOk K F ρ H st) (nf : ¬ F D) (nr : D ∉ ρ) : StoOk K F ρ (upd H D o) st := by
  refine ⟨s.len, s.nd, s.dis, fun a f => ?_, fun i a p h1 h2 => ?_⟩
  · obtain ⟨u, h⟩ := s.trk a f
    exact ⟨u, by rw [upd_ne (show a ≠ D from fun z => nf (by rw [← z]; exact f))]; exact h⟩
  · refine (s.at_ i a p h1 h2).mono (sx_own nf) fun u h => ?_
    have hm := List.mem_of_getElem? h1
    rw [upd_ne (show a ≠ D from fun z => nr (by rw [← z]; exact hm))]; exact h
/-- D stands apart in a later world, too -/
theorem apart_later {F F' : Addr → Prop} {ρ ρ' : List Addr} {H H' : Hp} {D : Addr} {o : HO} (e : Ext F ρ H F' ρ' H') (h : H D = some o) (nf : ¬ F D) (nr : D ∉ ρ) (nt : ∀ vs, o ≠ .tup vs := by intro vs z; cases z) : ¬ F' D ∧ D ∉ ρ' ∧ H' D = some o := by
  refine ⟨fun f => ?_, fun m => ?_, e.keep D o h nr⟩
  · rcases e.new D f with z | z | ⟨_, vs, z⟩
    · exact nf z
    · rw [h] at z; cases z
    · rw [h] at z
      exact nt vs (Option.some.inj z)
  · rcases e.celn D m with z | z
    · exact nr z
    · rw [h] at z; cases z
theorem opt_list {α : Type} (o : Option α) (r : List α) : (match o with | some y => y :: r | none => r) = o.toList ++ r := by cases o <;> rfl
theorem own_ix (m : MC) : ∀ vs : List Nat, (ownOf m vs).map (·.2) = vs
  | [] => rfl
  | v :: vs => by
    show v :: (ownOf m vs).map (·.2) = v :: vs
    rw [own_ix m vs]
theorem sub_of {is vs : List Nat} (h : subIx is vs = true) : ∀ i ∈ is, i ∈ vs := fun i hi => by
  unfold subIx at h
  simpa using List.all_eq_true.mp h i hi
/-- what one turn of a comprehension does -/
def compF (C : Cq) (elt : E) (g : G) (cs : Ts) (env0 : En) : PV → M (Option PV) := fun x => match bindG g x env0 with
  | none => M.bad
  | some env1 => M.bnd (evTs C.Φ cs env1) fun b => match b with
    | true => M.bnd (evE C.Φ elt env1) fun y => M.ret (some y)
    | false => M.ret none
theorem compL_cons (f : PV → M (Option PV)) (x : PV) (xs : List PV) : compL f (x :: xs) = M.bnd (f x) fun o => M.bnd (compL f xs) fun r => M.ret (o.toList ++ r) := by
  show (M.bnd (f x) fun o => M.bnd (compL f xs) fun r => M.ret (match o with | some y => y :: r | none => r)) = _
  congr 1
  funext o
  congr 1
  funext r
  cases o <;> rfl
theorem nox_map {α β γ : Type} (m : M α) (g : α → β) (k : β → M γ) : M.bnd (M.nox (M.bnd m fun r => M.ret (g r))) k = M.bnd (M.nox m) fun r => k (g r) := by
  funext st
  show (match M.nox (M.bnd m fun r => M.ret (g r)) st with | .ok a st' => k a st' | .exn x st' => .exn x st' | .bad => .bad) = (match M.nox m st with | .ok a st' => k (g a) st' | .exn x st' => .exn x st' | .bad => .bad)
  unfold M.nox M.bnd M.ret
  cases m st <;> rfl
theorem wipe_wipe (σ : L2.St) (vs : List Nat) : L2.wipe (L2.wipe σ vs) vs = L2.wipe σ vs := by
  have key : ∀ ws : List Nat, (∀ i ∈ ws, i ∈ vs) → L2.wipe (L2.wipe σ ws) vs = L2.wipe σ vs := fun ws => by
    induction ws with
    | nil => intro _; rfl
    | cons w ws ih =>
      intro h
      show L2.wipe ((L2.wipe σ ws).set w none) vs = _
      rw [(wipe_set _ w none vs).1 (h w List.mem_cons_self)]
      exact ih fun i hi => h i (List.mem_cons_of_mem _ hi)
  exact key vs fun _ h => h
/-- one turn, told to its end: D is the growing list, ps what stands in it; R the rest -/
theorem turn_ok {β : Type} {elt : E} {g : G} {cs : Ts} {vs : List Nat} {σ σ0 : L2.St} {x : V} {p : PV} {D : Addr} {acc : List V} {ps : List PV} {F : Addr → Prop} {ρ : List Addr} {H : Hp} {st : Sto} {env0 : En} {Fz : Addr → Prop} {ρz : List Addr} {Hz : Hp} {G : (Addr → Prop) → List Addr → Hp → PV → Prop} {R : Option PV → M β} {k : β → M PV}
    {Nx : Hp → Prop} {W : WX} (IV : (Addr → Prop) → List Addr → Hp → Prop) (iv : IV F ρ H) (iv1 : ∀ F ρ H F' ρ' H' st, StoOk C.K F ρ H st → Ext F ρ H F' ρ' H' → IV F ρ H → IV F' ρ' H') (iv2 : ∀ F ρ H o, ¬ F D → IV F ρ H → IV F ρ (upd H D o)) (hx : Rep C.K F ρ H x p) (hE : EnvOk C.K F ρ H env0 (L2.wipe σ vs)) (hS : StoOk C.K F ρ H st) (hz : Ext Fz ρz Hz F ρ H) (nD : Hz D = none) (hD : H D = some (.lst acc)) (nf : ¬ F D) (nr : D ∉ ρ) (ra : RepL C.K F ρ H acc ps)
    (la : ∀ st' y, PostG C.K W Fz ρz Hz σ0 G (M.bnd (M.nox (R (some y))) k st') → acc.length < sizeLine)
    (hsub : ∀ i ∈ g.ix, i ∈ vs)
    (h : PostG C.K W Fz ρz Hz σ0 G (M.bnd (M.nox (M.bnd (compF C elt g cs env0 p) R)) k st))
    (nx : ∀ (F' : Addr → Prop) (ρ' : List Addr) (H' : Hp) (st' : Sto) (acc' : List V) (o : Option PV), IV F' ρ' H' → Ext Fz ρz Hz F' ρ' H' → StoOk C.K F' ρ' H' st' → H' D = some (.lst acc') → ¬ F' D → D ∉ ρ' → RepL C.K F' ρ' H' acc' (ps ++ o.toList) → acc'.length ≤ acc.length + 1 →
      PostG C.K W Fz ρz Hz σ0 G (M.bnd (M.nox (R o)) k st') → Nx H') :
    tgG C.K g x (L2.wipe σ vs) H fun σ2 H2 => L2.wipe σ2 vs = L2.wipe σ vs ∧ RdTs C W0 cs σ2 H2 fun b H3 =>
      if b = true then RdX C W0 elt σ2 H3 fun y H4 => ∃ acc, H4 D = some (.lst acc) ∧ acc.length < sizeLine ∧ Nx (upd H4 D (.lst (acc ++ [y]))) else Nx H3 := by
  cases hb : bindG g p env0 with
  | none =>
    rw [nox_bnd] at h
    unfold compF at h
    rw [hb] at h
    exact h.elim
  | some env1 =>
    refine bindG_ok g x p env0 env1 _ _ hx hb hE fun σ2 hE2 hw => ⟨(hw vs hsub).trans (wipe_wipe σ vs), F, ρ, env1, st, hE2, hS, ?_⟩
    have h1 : PostG C.K W Fz ρz Hz σ0 G (M.bnd (M.nox (M.bnd (evTs C.Φ cs env1) fun b => M.bnd (match b with | true => M.bnd (evE C.Φ elt env1) fun y => M.ret (some y) | false => M.ret none) R)) k st) := by
      have e : compF C elt g cs env0 p = M.bnd (evTs C.Φ cs env1) fun b => match b with | true => M.bnd (evE C.Φ elt env1) fun y => M.ret (some y) | false => M.ret none := by
        show (match bindG g p env0 with | none => M.bad | some env1 => _) = _
        rw [hb]
      rw [e, bnd_assoc] at h
      exact h
    refine PostG.rest h1 fun b st1 F1 ρ1 H1 e1 s1 p1 => ?_
    obtain ⟨nf1, nr1, hD1⟩ := apart_later e1 hD nf nr
    cases b with
    | false =>
      rw [if_neg Bool.false_ne_true]
      exact nx F1 ρ1 H1 st1 acc none (iv1 _ _ _ _ _ _ _ hS e1 iv) (hz.trans e1) s1 hD1 nf1 nr1 (by rw [Option.toList_none, List.append_nil]; exact RepL.mono (e1.sx hS.dis) _ _ ra) (Nat.le_succ _) p1
    | true =>
      rw [if_pos rfl]
      have p2 : PostG C.K W Fz ρz Hz σ0 G (M.bnd (M.nox (M.bnd (evE C.Φ elt env1) fun y => R (some y))) k st1) := by
        have p1 : PostG C.K W Fz ρz Hz σ0 G (M.bnd (M.nox (M.bnd (M.bnd (evE C.Φ elt env1) fun y => M.ret (some y)) R)) k st1) := p1
        rw [bnd_assoc] at p1
        exact p1
      refine ⟨F1, ρ1, env1, st1, hE2.mono e1 hS.dis, s1, PostG.rest p2 fun y st2 F2 ρ2 H2 e2 s2 p3 v2 r2 => ?_⟩
      obtain ⟨nf2, nr2, hD2⟩ := apart_later e2 hD1 nf1 nr1
      have e12 := e1.trans e2
      have r3 := RepL.mono (e12.sx hS.dis) _ _ ra
      refine ⟨acc, hD2, la _ _ p3, ?_⟩
      refine nx F2 ρ2 _ st2 (acc ++ [v2]) (some y) (iv2 _ _ _ _ nf2 (iv1 _ _ _ _ _ _ _ hS e12 iv)) ((hz.trans e12).own nD) (s2.own nf2 nr2) upd_same nf2 nr2 ?_ (by simp) p3
      exact RepL.mono (sx_own nf2) _ _ (RepL.app r3 (.cons r2 .nil))
theorem drop_cons {α : Type} {l : List α} {i : Nat} {p : α} (h : l[i]? = some p) : l.drop i = p :: l.drop (i + 1) := by
  obtain ⟨hi, e⟩ := List.getElem?_eq_some_iff.mp h
  rw [List.drop_eq_getElem_cons hi, e]
/-- a comprehension of one clause, from what it walks -/
theorem comp_J {elt : E} {g : G} {cs : Ts} {vs : List Nat} {σ : L2.St} {H : Hp} {Q : VK} {J : It} {its : List PV} {F1 : Addr → Prop} {ρ1 : List Addr} {H1 : Hp} {st1 : Sto} {env : En} (hsub : ∀ i ∈ g.ix, i ∈ vs) (tr : ∀ a, H1 a = none → H a = none)
    (hE1 : EnvOk C.K F1 ρ1 H1 env σ) (s1 : StoOk C.K F1 ρ1 H1 st1) (hJ : ItOk C.K false F1 ρ1 H1 J its)
    (p1 : PostG C.K W F1 ρ1 H1 σ (GV C.K .fr H Q) (M.bnd (M.nox (compL (compF C elt g cs (wipeE env vs)) its)) (fun r => M.ret (.lst r)) st1)) : tLc (fun _ _ R => R J H1) (tgG C.K g) (RdTs C W0 cs) (RdX C W0 elt) vs σ H1 Q := by
  intro D nD
  obtain ⟨hlen, gd, g0, gE, _, goes, stops, ylds⟩ := hJ
  refine ⟨fun i n H' => ∃ F' ρ' st' acc ps, n = its.length - i ∧ i ≤ its.length ∧ Ext F1 ρ1 H1 F' ρ' H' ∧ StoOk C.K F' ρ' H' st' ∧ H' D = some (.lst acc) ∧ ¬ F' D ∧ D ∉ ρ' ∧ RepL C.K F' ρ' H' acc ps ∧ acc.length ≤ i ∧
    PostG C.K W F1 ρ1 H1 σ (GV C.K .fr H Q) (M.bnd (M.nox (compL (compF C elt g cs (wipeE env vs)) (its.drop i))) (fun r => M.ret (.lst (ps ++ r))) st'), ⟨_, F1, ρ1, st1, [], [], rfl, Nat.zero_le _, Ext.lay nD, s1.lay nD, upd_same, s1.nf nD, s1.nin nD, .nil, Nat.le_refl _, p1⟩, ?_⟩
  intro i n H' ⟨F', ρ', st', acc, ps, hn, hi, ez, s', hD, nf, nr, ra, la, hp⟩
  rcases Nat.lt_or_ge i its.length with hlt | hge
  · refine .inr ⟨goes i H' hlt (gE _ _ _ ez), fun H'' => ∃ m', m' < n ∧ ∃ F' ρ' st' acc ps, m' = its.length - (i + 1) ∧ i + 1 ≤ its.length ∧ Ext F1 ρ1 H1 F' ρ' H'' ∧ StoOk C.K F' ρ' H'' st' ∧ H'' D = some (.lst acc) ∧ ¬ F' D ∧ D ∉ ρ' ∧ RepL C.K F' ρ' H'' acc ps ∧ acc.length ≤ i + 1 ∧
      PostG C.K W F1 ρ1 H1 σ (GV C.K .fr H Q) (M.bnd (M.nox (compL (compF C elt g cs (wipeE env vs)) (its.drop (i + 1)))) (fun r => M.ret (.lst (ps ++ r))) st'), fun _ h => h, fun x H2 y => ?_⟩
    obtain ⟨pv, F2, hg, e2, s2, rx⟩ := ylds i F' ρ' H' x H2 st' hlt (ez.sx s1.dis) s' (gE _ _ _ ez) y
    obtain ⟨nf2, nr2, hD2⟩ := apart_later e2 hD nf nr
    have ez2 := ez.trans e2
    rw [drop_cons hg, compL_cons] at hp
    refine turn_ok (fun _ _ _ => True) trivial (fun _ _ _ _ _ _ _ _ _ _ => trivial) (fun _ _ _ _ _ _ => trivial) rx ((hE1.mono ez2 s1.dis).wipe vs) s2 ez2 nD hD2 nf2 nr2 (RepL.mono (e2.sx s'.dis) _ _ ra) (fun _ _ _ => by omega) hsub hp ?_
    intro F3 ρ3 H3 st3 acc3 o _ e3 s3 hD3 nf3 nr3 r3 l3 p3
    refine ⟨its.length - (i + 1), by omega, F3, ρ3, st3, acc3, ps ++ o.toList, rfl, hlt, e3, s3, hD3, nf3, nr3, r3, by omega, ?_⟩
    rw [nox_map] at p3
    simp only [List.append_assoc]
    exact p3
  · have hi : i = its.length := by omega
    subst hi
    refine .inl ⟨stops H' (gE _ _ _ ez), ?_⟩
    rw [List.drop_length] at hp
    have hp : PostG C.K W F1 ρ1 H1 σ (GV C.K .fr H Q) (.ok (.lst (ps ++ [])) st') := hp
    rw [List.append_nil] at hp
    exact hp F' ρ' H' ez s' _ ⟨⟨D, acc, rfl, nr, hD, ra⟩, D, ps, rfl, rfl, tr D nD, nf, nr⟩
theorem comp_tLc {elt : E} {g : G} {it : I} {cs : Ts} {vs : List Nat} {σ : L2.St} {H : Hp} {Q : VK} (hsub : ∀ i ∈ g.ix, i ∈ vs) (q : RdE C W (.comp elt g it cs vs) σ H Q) : tLc (RdI C W false it) (tgG C.K g) (RdTs C W0 cs) (RdX C W0 elt) vs σ H Q := by
  obtain ⟨F, ρ, env, st, hE, hS, p⟩ := q
  simp only [evE] at p
  exact ⟨F, ρ, env, st, hE, hS, PostG.bnd p fun its st1 F1 ρ1 H1 e1 s1 p1 J hJ => comp_J hsub e1.track (hE.mono e1 hS.dis) s1 hJ p1⟩
end
end Pv

/-! P9b: dicts whose keys are tuples of ints. -/
namespace Pv
open PySem PySem.Spec PyProof.Rows L2

section
variable {X : Cx}
/-- a dict of one entry, its key a tuple display -/
theorem dT_put {pins : List (Addr × Obj)} {σ : L2.St} {H : Hp} {s : Shared} {E1 : Value → Shared → Prop} {D b : Addr} {kvs : List (List L2.Key × V)} {k : List L2.Key} {v : V} {r : Value} {Q : Unit → Shared → Prop} (hu : X.A.units < cLine)
    (I : Inv X pins σ H s) (hD : H D = some (.dT kvs)) (hb : H b = some (.tup (k.map kV))) (hl : kvs.length < sizeLine) (rv : RelV v r) (go : ∀ s', Inv X pins σ (upd H D (.dT (L2.putK kvs k v))) s' → Q () s') :
    wpAny (model X.prog X.w) X.A (dictSet D (.ref b) r) Q E1 s := by
  obtain ⟨z, nd, zs, rel, made⟩ := dt_of I.hok hD
  have hlen : (L2.putK kvs k v).length ≤ sizeLine := Nat.le_trans (length_putK kvs k v) hl
  refine wpAny_dictSet_heap (hsz := by rw [← Paired.length rel]; exact z) hu (key_of I.hok hb) made fun h2 made2 same2 => go _ ?_
  obtain ⟨o2, es2, ep2, g2, t2, t3, t4, _, t5⟩ := made2
  refine d_write I (by rw [hD]; trivial) same2 ⟨o2, g2⟩ ⟨hlen, nd, _, (rel.put k hb rv).keeps fun c ys ec => ?_, o2, es2, ep2, g2, t2, t3, t4, t5⟩
  exact (upd_ne (ne_of ec hD (fun z => nomatch z))).trans ec
def PQ (p : Addr) (Q : VK) : List (V × V) → Hp → Prop := fun ps H2 => ∃ t y, ∃ k : List L2.Key, ps = [(.ref t, y)] ∧ H2 p = some (.dT []) ∧ H2 t = some (.tup (k.map kV)) ∧ Q (.ref p) (upd H2 p (.dT [(k, y)]))
def tDisT (ta : TA) (tv : TE) : TE := fun σ H Q => ∀ p, H p = none → tPairs [(tTup ta, tv)] σ (upd H p (.dT [])) (PQ p Q)
theorem pe_disT {es : List Expr} {k2 : Nat} {p2 pos : Pos} {v : Expr} {ta : TA} {tv : TE} (hu : X.A.units + 1 < cLine) (ha : PA X es ta) (hv : PE X v tv) : PE X (.Dict [some (.Tuple es k2 p2)] [v] pos) (tDisT ta tv) := by
  refine ⟨fun pins s σ H Q I q => ?_⟩
  have hn := I.fresh
  have I1 := I.laid (a := s.heap.objs.size) (o := .dT []) (t' := s.toks) (h' := s.heap.push { cls := .type "dict", data := .dict #[] }) (fun _ _ z => Heap.get?_push_of_some _ z) (Nat.le_refl _) (dt_empty s.heap I.big)
  have all := pps_cons (X := X) (pos := pos) (pe_tup (x1 := k2) (pos := p2) ha) hv pps_nil
  refine PySem.wpAny_Dict_any rfl rfl (by simp) (Nat.le_of_ble_eq_true rfl) (thn (all.run pins _ σ _ _ I1 (q _ hn)) fun ws s2 ⟨ps, H2, I2, rel, t, y, k, ep, hd, ht, q2⟩ => ?_)
  subst ep
  cases rel with
  | @cons p w ps ws h1 h2 =>
    cases h2
    obtain ⟨r1, r2⟩ := h1
    obtain ⟨u, r⟩ := w
    cases (show u = Value.ref t from r1)
    unfold PySem.storeAll
    rw [List.forIn_cons]
    refine wpAny_bind (wpAny_bind (dT_put (by omega) I2 hd ht (by have := lim_line; show 0 < sizeLine; omega) r2 fun s3 I3 => wpAny_pure ?_))
    simp only [List.forIn_nil]
    exact wpAny_pure ⟨.ref _, _, I3, rfl, q2⟩
end
section
variable {C : Cq} {m : MC} {W : WX} {X : Cx}
theorem rd_dlit (O : XOk C m W X) {as : Es} {e : E} {es : List Expr} {v : Expr} {k2 : Nat} {p2 pos : Pos} (ha : PA X es (RdL C W as)) (hl : as.len ≤ 1000) (hv : PE X v (RdX C W e)) : PE X (.Dict [some (.Tuple es k2 p2)] [v] pos) (RdE C W (.dlit as e)) := by
  have hu := units_of O
  refine PEimp (pe_disT (by omega) ha hv) fun σ H Q ⟨F, ρ, env, st, hE, hS, p⟩ t ht => ?_
  simp only [evE] at p
  have eL : Ext F ρ H F ρ (upd H t (.dT [])) := Ext.lay ht
  have hE' := hE.mono eL hS.dis
  have hS' := hS.lay (o := .dT []) ht
  have nf := hS.nf ht
  have nr := hS.nin ht
  have hlen : ∀ ps st', evEs C.Φ as env st = .ok ps st' → ps.length ≤ 1000 := fun ps st' h => by rw [evEs_len as env st st' ps h]; exact hl
  show RdL C W as σ (upd H t (.dT [])) (fun xs H1 => xs.length ≤ sizeLine ∧ ∀ q, H1 q = none → RdX C W e σ (upd H1 q (.tup xs)) fun y H2 => PQ t Q [(.ref q, y)] H2)
  refine ⟨F, ρ, env, st, hE', hS', ?_⟩
  unfold M.bnd at p
  cases e1 : evEs C.Φ as env st with
  | exn x st1 => rw [e1] at p; exact fun c d H' F' ρ' e s r => p c d H' F' ρ' (eL.trans e) s r
  | bad => rw [e1] at p; exact p
  | ok xs st1 =>
    rw [e1] at p
    intro F1 ρ1 H1 x1 s1 vs r1
    refine ⟨by rw [r1.len]; exact small1000' (hlen xs st1 e1), fun q hq => ?_⟩
    obtain ⟨nf1, nr1, hD1⟩ := apart_later x1 (show (upd H t (.dT [])) t = some (.dT []) from upd_same) nf nr
    have xq : Ext F1 ρ1 H1 (fun b => F1 b ∨ b = q) ρ1 (upd H1 q (.tup vs)) := Ext.layF hq
    refine ⟨_, ρ1, env, st1, (hE'.mono x1 hS'.dis).mono xq s1.dis, s1.layF hq, ?_⟩
    obtain ⟨nf2, nr2, hD2⟩ := apart_later xq hD1 nf1 nr1
    simp only at p
    cases e2 : evE C.Φ e env st1 with
    | exn x st2 => rw [e2] at p; exact fun c d H' F' ρ' e s r => p c d H' F' ρ' ((eL.trans (x1.trans xq)).trans e) s r
    | bad => rw [e2] at p; exact p
    | ok y st2 =>
      rw [e2] at p
      intro F2 ρ2 H2 x2 s2 v2 r2
      obtain ⟨nf3, nr3, hD3⟩ := apart_later x2 hD2 nf2 nr2
      simp only at p
      split at p
      · rename_i hok
        have hq2 : H2 q = some (.tup vs) := x2.keep q _ upd_same (s1.nin hq)
        unfold dOk at hok
        simp only [List.all_cons, List.all_nil, Bool.and_true, Bool.and_eq_true] at hok
        obtain ⟨hk, hsc⟩ := hok
        obtain ⟨ns, hns⟩ := Option.isSome_iff_exists.mp hk
        have evs : vs = ns.map V.int := ints_rep r1 hns
        have ekv : ((ns.map Sum.inl : List L2.Key).map kV) = ns.map V.int := by rw [List.map_map]; rfl
        have ey : v2 = scV y := by
          have r3 : Rep C.K F2 ρ2 H2 v2 y := r2
          clear r2 p e2
          cases y <;> first | (cases r3; rfl) | exact absurd hsc Bool.false_ne_true
        have ekd : keyD (.tup xs) = ns := by unfold keyD; rw [hns]; rfl
        have ef : [(PV.tup xs, y)].map fD = [((ns.map Sum.inl : List L2.Key), v2)] := by
          show [((keyD (.tup xs)).map Sum.inl, scV y)] = _
          rw [ekd, ey]
        refine ⟨q, v2, ns.map Sum.inl, rfl, hD3, by rw [hq2, evs, ekv], ?_⟩
        have xx := (eL.trans (x1.trans (xq.trans x2))).own (o := .dT [((ns.map Sum.inl : List L2.Key), v2)]) ht
        exact p F2 ρ2 _ xx (s2.own nf3 nr3) _ ⟨t, _, rfl, rfl, nr3, by rw [ef]; exact upd_same, by
          unfold dOk; simp only [List.all_cons, List.all_nil, Bool.and_true, Bool.and_eq_true]; exact ⟨hk, hsc⟩, ht, nf3⟩
      · exact p.elim
end

/-! ### locks -/
/-- two heaps that are alike but for a dict's lock -/
structure Agr (a : Addr) (ks : List (List L2.Key × V)) (H1 H2 : Hp) : Prop where
  off : ∀ b, b ≠ a → H1 b = H2 b
  at1 : Rd H1 a (.dT ks)
  at2 : Rd H2 a (.dT ks)
section
variable {K : PySem.W.Frag} {F F' : Addr → Prop} {ρ ρ' : List Addr} {H H1 H2 H' : Hp} {a : Addr} {ks : List (List L2.Key × V)} {st : Sto} {env : En} {σ : L2.St}
theorem Agr.symm (g : Agr a ks H1 H2) : Agr a ks H2 H1 := ⟨fun b n => (g.off b n).symm, g.at2, g.at1⟩
theorem Agr.ne {b : Addr} {u : HO} (g : Agr a ks H1 H2) (h : H1 b = some u) (n1 : ∀ k, u ≠ .dT k) (n2 : ∀ o w, u ≠ .frz o w) : b ≠ a := fun e => by
  subst e
  rcases g.at1 with z | ⟨o, z⟩
  · rw [h] at z; exact n1 _ (Option.some.inj z)
  · rw [h] at z; exact n2 _ _ (Option.some.inj z)
theorem Agr.rd {b : Addr} {u : HO} (g : Agr a ks H1 H2) (nf : ∀ o w, u ≠ .frz o w) (h : Rd H1 b u) : Rd H2 b u := by
  by_cases hb : b = a
  · subst hb
    rcases h with h | ⟨o, h⟩ <;> rcases g.at1 with z | ⟨o', z⟩ <;> rw [h] at z
    · cases z; exact g.at2
    · exact absurd (Option.some.inj z) (nf _ _)
    · cases z
    · cases z; exact g.at2
  · rcases h with h | ⟨o, h⟩
    · exact .inl (by rw [← g.off b hb]; exact h)
    · exact .inr ⟨o, by rw [← g.off b hb]; exact h⟩
mutual
theorem Rep.agr (g : Agr a ks H1 H2) : ∀ (p : PV) (v : V), Rep K F ρ H1 v p → Rep K F ρ H2 v p
  | .non, _, h => by cases h; exact .non
  | .bl _, _, h => by cases h; exact .bl _
  | .int _, _, h => by cases h; exact .int _
  | .str _, _, h => by cases h; exact .str _
  | .tup ps, _, h => by
    cases h with
    | tup f s r => exact .tup f ((g.off _ (g.ne s (by intro k z; cases z) (by intro o w z; cases z))) ▸ s) (RepL.agr g ps _ r)
  | .lst ps, _, h => by
    cases h with
    | lst f s r => exact .lst f ((g.off _ (g.ne s (by intro k z; cases z) (by intro o w z; cases z))) ▸ s) (RepL.agr g ps _ r)
  | .scr ns, _, h => by
    cases h with
    | scr h =>
      refine .scr (h.elim (fun q => ?_) .inr)
      rcases q.2 with z | z
      · exact .inl ⟨q.1, .inl (g.rd (by intro o w z; cases z) z)⟩
      · exact .inr fun _ => .inr z
  | .cel k, _, h => by
    cases h with
    | cel q => exact .cel q
  | .dct _, _, h => by
    cases h with
    | dct f s o => exact .dct f (g.rd (by intro o w z; cases z) s) o
  | .set _, _, h => by cases h
  | .exc _ _, _, h => by cases h
  | .glb _, _, h => by cases h
theorem RepL.agr (g : Agr a ks H1 H2) : ∀ (ps : List PV) (vs : List V), RepL K F ρ H1 vs ps → RepL K F ρ H2 vs ps
  | [], _, h => by cases h; exact .nil
  | p :: ps, _, h => by
    cases h with
    | cons a b => exact .cons (Rep.agr g p _ a) (RepL.agr g ps _ b)
end
theorem CelRep.agr {b : Addr} {p : PV} (g : Agr a ks H1 H2) (n : b ≠ a) (h : CelRep K F ρ H1 b p) : CelRep K F ρ H2 b p := by
  cases p with
  | lst ps => obtain ⟨vs, q, r⟩ := h; exact ⟨vs, by rw [← g.off b n]; exact q, RepL.agr g ps vs r⟩
  | dct kvs => exact ⟨by rw [← g.off b n]; exact h.1, h.2⟩
  | _ => exact h.elim
theorem StoOk.agr (g : Agr a ks H1 H2) (fa : F a) (s : StoOk K F ρ H1 st) : StoOk K F ρ H2 st := by
  refine ⟨s.len, s.nd, s.dis, fun b f => ?_, fun k b p h1 h2 => (s.at_ k b p h1 h2).agr g fun z => s.dis b (List.mem_of_getElem? h1) (z ▸ fa)⟩
  by_cases hb : b = a
  · subst hb
    rcases g.at2 with z | ⟨o, z⟩ <;> exact ⟨_, z⟩
  · obtain ⟨o, z⟩ := s.trk b f
    exact ⟨o, by rw [← g.off b hb]; exact z⟩
theorem EnvOk.agr (g : Agr a ks H1 H2) (fa : F a) (h : EnvOk K F ρ H1 env σ) : EnvOk K F ρ H2 env σ := by
  refine ⟨h.len, fun i p q => ?_, fun i p q => ?_, h.dif⟩
  · obtain ⟨v, e1, r⟩ := h.val i p q
    exact ⟨v, e1, Rep.agr g p v r⟩
  · obtain ⟨b, e1, nf, nr, c⟩ := h.own i p q
    exact ⟨b, e1, nf, nr, c.agr g fun z => nf (z ▸ fa)⟩
/-- under a lock and behind it -/
theorem Ext.lock {o : Obj} (fa : F a) (ha : H a = some (.dT ks)) (e : Ext F ρ (upd H a (.frz o (.dT ks))) F' ρ' H') : Ext F ρ H F' ρ' (upd H' a (.dT ks)) := by
  refine ⟨e.sub, fun b f => ?_, fun b u h n => ?_, fun b h => ?_, e.cel, fun b m => ?_⟩
  · by_cases hb : b = a
    · subst hb; exact .inl fa
    · have := e.new b f
      rw [upd_ne hb] at this
      exact this
  · by_cases hb : b = a
    · subst hb
      rw [ha] at h
      cases h
      exact upd_same
    · rw [upd_ne hb]
      exact e.keep b u (by rw [upd_ne hb]; exact h) n
  · by_cases hb : b = a
    · subst hb
      rw [upd_same] at h
      cases h
    · rw [upd_ne hb] at h
      have := e.track b h
      rw [upd_ne hb] at this
      exact this
  · rcases e.celn b m with z | z
    · exact .inl z
    · by_cases hb : b = a
      · subst hb
        rw [upd_same] at z
        cases z
      · rw [upd_ne hb] at z
        exact .inr z
theorem agr_in {o : Obj} (ha : H a = some (.dT ks)) : Agr a ks H (upd H a (.frz o (.dT ks))) := ⟨fun b n => (upd_ne n).symm, .inl ha, .inr ⟨o, upd_same⟩⟩
theorem agr_out {o : Obj} (ha : H a = some (.frz o (.dT ks))) : Agr a ks H (upd H a (.dT ks)) := ⟨fun b n => (upd_ne n).symm, .inr ⟨o, ha⟩, .inl upd_same⟩
end

/-! ### what is walked: a dict's keys -/
theorem itOk_keys {K : PySem.W.Frag} {loop : Bool} {F : Addr → Prop} {ρ : List Addr} {H : Hp} {a : Addr} {o : Obj} {kvs : List (PV × PV)} (f : F a) (nr : a ∉ ρ) (s : H a = some (.frz o (.dT (kvs.map fD)))) (ok : dOk kvs = true) (hl : kvs.length ≤ sizeLine) :
    ItOk K loop F ρ H (Itkt a o (kvs.map fD)) (kvs.map (·.1)) := by
  refine ⟨by rw [List.length_map]; exact hl, fun H2 => H2 a = some (.frz o (.dT (kvs.map fD))), s, fun F2 ρ2 H2 e => e.keep a _ s nr, fun _ F2 ρ2 H2 e => e.keep a _ f s, fun i H2 hi g => ?_, fun H2 g => ?_, fun i F2 ρ2 H2 x H3 st hi e sk g y => ?_⟩
  · exact ⟨g, by simpa using hi⟩
  · exact ⟨g, by simp⟩
  · obtain ⟨e1, k, v, q, h1, h2, h3⟩ := y
    subst e1 h2
    rw [List.length_map] at hi
    rw [List.getElem?_map, List.getElem?_eq_getElem hi] at h1
    simp only [Option.map_some, Option.some.injEq] at h1
    have hk := (List.all_eq_true.mp ok) kvs[i] (List.getElem_mem hi)
    rw [Bool.and_eq_true] at hk
    obtain ⟨ns, hns⟩ := Option.isSome_iff_exists.mp hk.1
    have ek : k = (ns.map Sum.inl : List L2.Key) := by
      have : (fD kvs[i]).1 = k := by rw [h1]
      rw [← this]
      show (keyD kvs[i].1).map Sum.inl = _
      unfold keyD
      rw [hns]
      rfl
    have ekv : k.map kV = ns.map V.int := by rw [ek, List.map_map]; rfl
    rw [ekv] at h3
    have hp : ∃ xs, kvs[i].1 = .tup xs ∧ intsOf xs = some ns := by
      cases hc : kvs[i].1 <;> rw [hc] at hns <;> simp only [keyP] at hns <;> first | cases hns | exact ⟨_, rfl, hns⟩
    obtain ⟨xs, hx1, hx2⟩ := hp
    have rl : ∀ (F' : Addr → Prop), RepL K F' ρ2 H3 (ns.map V.int) xs := fun F' => by
      clear hx1 h3 ekv ek hns
      induction xs generalizing ns with
      | nil =>
        simp only [intsOf, Option.some.injEq] at hx2
        subst hx2
        exact .nil
      | cons z xs ih =>
        cases z <;> simp only [intsOf] at hx2 <;> try cases hx2
        rename_i z
        obtain ⟨ms, e1, rfl⟩ := Option.map_eq_some_iff.mp hx2
        exact .cons (.int z) (ih ms e1)
    have nq : q ∉ ρ2 := fun m => by
      obtain ⟨j, hj, ej⟩ := List.getElem_of_mem m
      have hj2 : j < st.length := by rw [← sk.len]; exact hj
      exact (sk.at_ j q st[j] (by rw [List.getElem?_eq_getElem hj, ej]) (List.getElem?_eq_getElem hj2)).ntup h3
    refine ⟨kvs[i].1, fun b => F2 b ∨ b = q, by simp [hi], ⟨fun b z => .inl z, fun b z => z.elim .inl fun z => .inr (.inr ⟨z ▸ nq, _, z ▸ h3⟩), fun b o h _ => h, fun b h => h, fun _ _ h => h, fun _ h => .inl h⟩,
      ⟨sk.len, sk.nd, fun b m z => z.elim (sk.dis b m) fun z => nq (z ▸ m), fun b z => z.elim (sk.trk b) fun z => ⟨_, z ▸ h3⟩, fun k b p h1 h2 => (sk.at_ k b p h1 h2).mono ⟨fun _ z => .inl z, fun _ _ _ z => z, fun _ _ z => z⟩ fun _ z => z⟩, ?_⟩
    rw [hx1]
    exact .tup (.inr rfl) h3 (rl _)
theorem lock_or {X : Cx} {e : Expr} {t : TE} (h : PE X e t) : PE X e (fun σ H Q => tLockE t σ H Q ∨ t σ H Q) := ⟨fun pins s σ H Q I q => q.elim ((pe_lock h).run pins s σ H Q I) (h.run pins s σ H Q I)⟩
section
variable {C : Cq} {m : MC} {W : WX} {X : Cx}
theorem nox_ok {o : Out PV} {K : PySem.W.Frag} {F : Addr → Prop} {ρ : List Addr} {H : Hp} {a : Addr} {od : Obj} {ks : List (List L2.Key × V)} {σ : L2.St} {Q : VK} (fa : F a) (nr : a ∉ ρ) (ha : H a = some (.dT ks)) (ne : ∀ x st, o ≠ .exn x st)
    (h : PostG K W F ρ H σ (GV K .fr H Q) o) : PostG K W F ρ (upd H a (.frz od (.dT ks))) σ (GV K .fr (upd H a (.frz od (.dT ks))) fun v H' => H' a = some (.frz od (.dT ks)) ∧ Q v (upd H' a (.dT ks))) o := by
  cases o with
  | exn x st => exact absurd rfl (ne x st)
  | bad => exact h
  | ok p st =>
    intro F' ρ' H' e s v r
    have hz : H' a = some (.frz od (.dT ks)) := e.keep a _ upd_same nr
    refine ⟨hz, h F' ρ' (upd H' a (.dT ks)) (e.lock fa ha) (s.agr (agr_out hz) (e.sub a fa)) v ?_⟩
    obtain ⟨w, b, ps, rfl, rfl, n, nf, nr'⟩ := r
    obtain ⟨b', vs, eb, nb, hb, rl⟩ := w
    cases eb
    have hne : b ≠ a := fun z => nf (z ▸ e.sub a fa)
    exact ⟨⟨b, vs, rfl, nb, by rw [upd_ne hne]; exact hb, RepL.agr (agr_out hz) _ _ rl⟩, b, ps, rfl, rfl, by rw [upd_ne hne] at n; exact n, nf, nr'⟩
theorem compD_t {i : Nat} {elt : E} {g : G} {cs : Ts} {vs : List Nat} {σ : L2.St} {H : Hp} {Q : VK} (hsub : ∀ i ∈ g.ix, i ∈ vs) (sz : ∀ a ks, Rd H a (.dT ks) → ks.length ≤ sizeLine) (q : RdE C W (.compD i elt g cs vs) σ H Q) :
    tLockE (tLc (iKeys (tVar i)) (tgG C.K g) (RdTs C W0 cs) (RdX C W0 elt) vs) σ H Q ∨ tLc (iKeys (tVar i)) (tgG C.K g) (RdTs C W0 cs) (RdX C W0 elt) vs σ H Q := by
  obtain ⟨F, ρ, env, st, hE, hS, p⟩ := q
  simp only [evE] at p
  cases hl : look env i with
  | no => rw [hl] at p; exact p.elim
  | own _ => rw [hl] at p; exact p.elim
  | val y =>
    rw [hl] at p
    cases y <;> try exact p.elim
    rename_i kvs
    obtain ⟨v, hs, r⟩ := hE.val i _ hl
    cases r with
    | @dct a _ f s o =>
      have hlen : kvs.length ≤ sizeLine := by have := sz a _ s; rwa [List.length_map] at this
      have nr : a ∉ ρ := fun m => hS.dis a m f
      have p : PostG C.K W F ρ H σ (GV C.K .fr H Q) (M.bnd (M.nox (compL (compF C elt g cs (wipeE env vs)) (kvs.map (·.1)))) (fun r => M.ret (.lst r)) st) := p
      rcases s with s | ⟨od, s⟩
      · left
        refine ⟨a, _, s, trivial, fun od => ⟨.ref a, hs, a, od, rfl, .inr ⟨_, upd_same, ?_⟩⟩⟩
        have g1 : Agr a (kvs.map fD) H (upd H a (.frz od (.dT (kvs.map fD)))) := agr_in s
        refine comp_J hsub (fun _ h => h) (hE.agr g1 f) (hS.agr g1 f) (itOk_keys f nr upd_same o hlen) (nox_ok f nr s (fun x st' z => ?_) p)
        unfold M.bnd M.nox at z
        cases hc : compL (compF C elt g cs (wipeE env vs)) (kvs.map (·.1)) st <;> rw [hc] at z <;> cases z
      · right
        exact ⟨.ref a, hs, a, od, rfl, .inr ⟨_, s, comp_J hsub (fun _ h => h) hE hS (itOk_keys f nr s o hlen) p⟩⟩
end
end Pv

/-! P10: two clauses; every expression that matches keeps its reading. -/
namespace Pv
open PySem PySem.Spec PyProof.Rows L2
section
variable {C : Cq} {m : MC} {W : WX} {X : Cx}
def compG (C : Cq) (elt : E) (g : G) (cs : Ts) (g1 : G) (it1 : I) (cs1 : Ts) (vs1 : List Nat) (env0 : En) : PV → M (List PV) := fun x => match bindG g x env0 with
  | none => M.bad
  | some env1 => M.bnd (evTs C.Φ cs env1) fun b => match b with
    | true => M.bnd (evI C.Φ it1 env1) fun its1 => compL (compF C elt g1 cs1 (wipeE env1 vs1)) its1
    | false => M.ret []
def gK (ps : List PV) : List PV → M PV := fun r => if (ps ++ r).length ≤ 1000000 then M.ret (.lst (ps ++ r)) else M.bad
theorem gK_app (ps qs : List PV) : (fun r => gK ps (qs ++ r)) = gK (ps ++ qs) := by
  funext r
  unfold gK
  rw [List.append_assoc]
theorem gK_len {K : PySem.W.Frag} {F : Addr → Prop} {ρ : List Addr} {H : Hp} {σ : L2.St} {G : (Addr → Prop) → List Addr → Hp → PV → Prop} {ps : List PV} {y : PV} {a b : M (List PV)} {st : Sto} (h : PostG K W F ρ H σ G (M.bnd (M.nox (M.bnd (M.bnd a fun r => M.ret (y :: r)) fun o => M.bnd b fun r => M.ret (o ++ r))) (gK ps) st)) : ps.length < 1000000 := by
  cases ea : a st with
  | bad => simp only [M.bnd, M.nox, ea] at h; exact h.elim
  | exn x st1 => simp only [M.bnd, M.nox, ea] at h; exact h.elim
  | ok o st1 =>
    cases eb : b st1 with
    | bad => simp only [M.bnd, M.nox, M.ret, ea, eb] at h; exact h.elim
    | exn x st2 => simp only [M.bnd, M.nox, M.ret, ea, eb] at h; exact h.elim
    | ok r st2 =>
      simp only [M.bnd, M.nox, M.ret, ea, eb, gK] at h
      split at h
      · rename_i hl
        simp only [List.length_append, List.length_cons] at hl
        omega
      · exact h.elim
mutual
theorem bindG_own : ∀ (g : G) (p : PV) (env env' : En) (i : Nat) (q : PV), bindG g p env = some env' → look env' i = .own q → look env i = .own q ∧ i ∉ g.ix
  | .name j, p, env, env', i, q, e, l => by
    simp only [bindG] at e
    split at e
    · rename_i hj
      cases e
      by_cases h : i = j
      · subst h; rw [look_put_same hj] at l; cases l
      · rw [look_put_ne h] at l; exact ⟨l, by simp [G.ix, h]⟩
    · cases e
  | .tup gs, p, env, env', i, q, e, l => by
    cases p with
    | tup ps => exact bindGs_own gs ps env env' i q e l
    | _ => simp only [bindG] at e; cases e
theorem bindGs_own : ∀ (g : Gs) (p : List PV) (env env' : En) (i : Nat) (q : PV), bindGs g p env = some env' → look env' i = .own q → look env i = .own q ∧ i ∉ g.ix
  | .nil, [], env, env', i, q, e, l => by simp only [bindGs, Option.some.injEq] at e; subst e; exact ⟨l, by simp [Gs.ix]⟩
  | .nil, _ :: _, env, env', i, q, e, l => by simp only [bindGs] at e; cases e
  | .cons _ _, [], env, env', i, q, e, l => by simp only [bindGs] at e; cases e
  | .cons g r, p :: ps, env, env', i, q, e, l => by
    simp only [bindGs] at e
    obtain ⟨env1, e1, e2⟩ := Option.bind_eq_some_iff.mp e
    obtain ⟨a1, a2⟩ := bindGs_own r ps env1 env' i q e2 l
    obtain ⟨b1, b2⟩ := bindG_own g p env env1 i q e1 a1
    exact ⟨b1, by simp [Gs.ix, a2, b2]⟩
end
theorem EnvOk.ownw {K : PySem.W.Frag} {F : Addr → Prop} {ρ : List Addr} {H : Hp} {env : En} {σ : L2.St} {D : Addr} {o : HO} (h : EnvOk K F ρ H env σ) (nf : ¬ F D) (n : ∀ i q, look env i = .own q → σ[i]? ≠ some (some (.ref D))) : EnvOk K F ρ (upd H D o) env σ := by
  refine ⟨h.len, fun i p q => ?_, fun i p q => ?_, h.dif⟩
  · obtain ⟨v, e, r⟩ := h.val i p q
    exact ⟨v, e, Rep.mono (sx_own nf) _ _ r⟩
  · obtain ⟨a, e, f, r, c⟩ := h.own i p q
    refine ⟨a, e, f, r, c.mono (sx_own nf) fun u hu => ?_⟩
    rw [upd_ne (show a ≠ D from fun z => n i p q (by rw [e, z]))]; exact hu
/-- of two clauses -/
theorem comp2_tLc {elt : E} {g g1 : G} {it it1 : I} {cs cs1 : Ts} {vs vs1 : List Nat} {σ : L2.St} {H : Hp} {Q : VK} (hsub : ∀ i ∈ g.ix, i ∈ vs) (hsub1 : ∀ i ∈ g1.ix, i ∈ vs1) (q : RdE C W (.comp2 elt g it cs g1 it1 cs1 vs vs1) σ H Q) :
    tLc2 (RdI C W false it) (tgG C.K g) (RdTs C W0 cs) (RdI C W0 true it1) (tgG C.K g1) (RdTs C W0 cs1) (RdX C W0 elt) vs vs1 σ H Q := by
  obtain ⟨F, ρ, env, st, hE, hS, p⟩ := q
  simp only [evE] at p
  have ll := lim_line
  refine ⟨F, ρ, env, st, hE, hS, PostG.bnd p fun its st1 F1 ρ1 H1 e1 s1 p1 J hJ D nD => ?_⟩
  have hE1 := hE.mono e1 hS.dis
  obtain ⟨hlen, gd, g0, gE, _, goes, stops, ylds⟩ := hJ
  let f := compG C elt g cs g1 it1 cs1 vs1 (wipeE env vs)
  refine ⟨fun i n H' => ∃ F' ρ' st' acc ps, n = its.length - i ∧ i ≤ its.length ∧ Ext F1 ρ1 H1 F' ρ' H' ∧ StoOk C.K F' ρ' H' st' ∧ H' D = some (.lst acc) ∧ ¬ F' D ∧ D ∉ ρ' ∧ RepL C.K F' ρ' H' acc ps ∧
    PostG C.K W F1 ρ1 H1 σ (GV C.K .fr H Q) (M.bnd (M.nox (compLL f (its.drop i))) (gK ps) st'), ⟨_, F1, ρ1, st1, [], [], rfl, Nat.zero_le _, Ext.lay nD, s1.lay nD, upd_same, s1.nf nD, s1.nin nD, .nil, p1⟩, ?_⟩
  intro i n H' ⟨F', ρ', st', acc, ps, hn, hi, ez, s', hD, nf, nr, ra, hp⟩
  rcases Nat.lt_or_ge i its.length with hlt | hge
  · refine .inr ⟨goes i H' hlt (gE _ _ _ ez), fun H'' => ∃ m', m' < n ∧ ∃ F' ρ' st' acc ps, m' = its.length - (i + 1) ∧ i + 1 ≤ its.length ∧ Ext F1 ρ1 H1 F' ρ' H'' ∧ StoOk C.K F' ρ' H'' st' ∧ H'' D = some (.lst acc) ∧ ¬ F' D ∧ D ∉ ρ' ∧ RepL C.K F' ρ' H'' acc ps ∧
      PostG C.K W F1 ρ1 H1 σ (GV C.K .fr H Q) (M.bnd (M.nox (compLL f (its.drop (i + 1)))) (gK ps) st'), fun _ h => h, fun x H2 y => ?_⟩
    obtain ⟨pv, F2, hg, e2, s2, rx⟩ := ylds i F' ρ' H' x H2 st' hlt (ez.sx s1.dis) s' (gE _ _ _ ez) y
    obtain ⟨nf2, nr2, hD2⟩ := apart_later e2 hD nf nr
    have ez2 := ez.trans e2
    have ra2 := RepL.mono (e2.sx s'.dis) _ _ ra
    have hE2 := (hE1.mono ez2 s1.dis).wipe vs
    rw [drop_cons hg] at hp
    have hp : PostG C.K W F1 ρ1 H1 σ (GV C.K .fr H Q) (M.bnd (M.nox (M.bnd (f pv) fun o => M.bnd (compLL f (its.drop (i + 1))) fun r => M.ret (o ++ r))) (gK ps) st') := hp
    cases hb : bindG g pv (wipeE env vs) with
    | none =>
      rw [nox_bnd] at hp
      have e : f pv = M.bad := by
        show (match bindG g pv (wipeE env vs) with | none => M.bad | some env1 => _) = _
        rw [hb]
      rw [e] at hp
      exact hp.elim
    | some env1 =>
    refine bindG_ok g x pv _ env1 _ _ rx hb hE2 fun σ2 hE3 hw => ⟨(hw vs hsub).trans (wipe_wipe σ vs), F2, ρ', env1, st', hE3, s2, ?_⟩
    have e : f pv = M.bnd (evTs C.Φ cs env1) fun b => match b with
      | true => M.bnd (evI C.Φ it1 env1) fun its1 => compL (compF C elt g1 cs1 (wipeE env1 vs1)) its1
      | false => M.ret [] := by
      show (match bindG g pv (wipeE env vs) with | none => M.bad | some env1 => _) = _
      rw [hb]
    rw [e, bnd_assoc] at hp
    refine PostG.rest hp fun b st3 F3 ρ3 H3 e3 s3 p3 => ?_
    obtain ⟨nf3, nr3, hD3⟩ := apart_later e3 hD2 nf2 nr2
    have ez3 := ez2.trans e3
    have ra3 := RepL.mono (e3.sx s2.dis) _ _ ra2
    have hE4 := hE3.mono e3 s2.dis
    cases b with
    | false =>
      rw [if_neg Bool.false_ne_true]
      refine ⟨its.length - (i + 1), by omega, F3, ρ3, st3, acc, ps, rfl, hlt, ez3, s3, hD3, nf3, nr3, ra3, ?_⟩
      have p3 : PostG C.K W F1 ρ1 H1 σ (GV C.K .fr H Q) (M.bnd (M.nox (M.bnd (compLL f (its.drop (i + 1))) fun r => M.ret ([] ++ r))) (gK ps) st3) := p3
      rw [nox_map] at p3
      exact p3
    | true =>
      rw [if_pos rfl]
      have p3 : PostG C.K W F1 ρ1 H1 σ (GV C.K .fr H Q) (M.bnd (M.nox (M.bnd (M.bnd (evI C.Φ it1 env1) fun its1 => compL (compF C elt g1 cs1 (wipeE env1 vs1)) its1) fun o => M.bnd (compLL f (its.drop (i + 1))) fun r => M.ret (o ++ r))) (gK ps) st3) := p3
      rw [bnd_assoc] at p3
      refine ⟨F3, ρ3, env1, st3, hE4, s3, PostG.rest p3 fun its1 st4 F4 ρ4 H4 e4 s4 p4 J1 hJ1 => ?_⟩
      obtain ⟨nf4, nr4, hD4⟩ := apart_later e4 hD3 nf3 nr3
      have ez4 := ez3.trans e4
      have ra4 := RepL.mono (e4.sx s3.dis) _ _ ra3
      have hE5 := hE4.mono e4 s3.dis
      obtain ⟨hlen1, gd1, g01, _, gE1, goes1, stops1, ylds1⟩ := hJ1
      have gE1 := gE1 rfl
      let f1 := compF C elt g1 cs1 (wipeE env1 vs1)
      have nD2 : ∀ i q, look env1 i = .own q → σ2[i]? ≠ some (some (.ref D)) := fun i q hi hd => by
        obtain ⟨a1, a2⟩ := bindG_own g pv _ env1 i q hb hi
        have w1 := wipe_out (σ := σ2) a2
        have w2 := wipe_out (σ := L2.wipe σ vs) a2
        rw [hw g.ix fun _ h => h] at w1
        rw [← w1, w2] at hd
        obtain ⟨a, e, _, _, c⟩ := (hE1.wipe vs).own i q a1
        rw [hd] at e
        cases e
        obtain ⟨u, hu⟩ := c.there
        rw [nD] at hu; cases hu
      refine ⟨fun j k H' => ∃ F' ρ' st' acc ps, k = its1.length - j ∧ j ≤ its1.length ∧ (Sx F4 ρ4 H4 F' ρ' H' ∧ EnvOk C.K F' ρ' H' env1 σ2) ∧ Ext F1 ρ1 H1 F' ρ' H' ∧ StoOk C.K F' ρ' H' st' ∧ H' D = some (.lst acc) ∧ ¬ F' D ∧ D ∉ ρ' ∧ RepL C.K F' ρ' H' acc ps ∧
        PostG C.K W F1 ρ1 H1 σ (GV C.K .fr H Q) (M.bnd (M.nox (M.bnd (compL f1 (its1.drop j)) fun o => M.bnd (compLL f (its.drop (i + 1))) fun r => M.ret (o ++ r))) (gK ps) st'), ⟨_, F4, ρ4, st4, acc, ps, rfl, Nat.zero_le _, ⟨Sx.refl, hE5⟩, ez4, s4, hD4, nf4, nr4, ra4, p4⟩, ?_⟩
      intro j k H5 ⟨F5, ρ5, st5, acc5, ps5, hk, hj, iv5, ez5, s5, hD5, nf5, nr5, ra5, hp5⟩
      rcases Nat.lt_or_ge j its1.length with jlt | jge
      · refine .inr ⟨goes1 j H5 jlt (gE1 _ _ _ iv5.1), fun H'' => ∃ k', k' < k ∧ ∃ F' ρ' st' acc ps, k' = its1.length - (j + 1) ∧ j + 1 ≤ its1.length ∧ (Sx F4 ρ4 H4 F' ρ' H'' ∧ EnvOk C.K F' ρ' H'' env1 σ2) ∧ Ext F1 ρ1 H1 F' ρ' H'' ∧ StoOk C.K F' ρ' H'' st' ∧ H'' D = some (.lst acc) ∧ ¬ F' D ∧ D ∉ ρ' ∧ RepL C.K F' ρ' H'' acc ps ∧
          PostG C.K W F1 ρ1 H1 σ (GV C.K .fr H Q) (M.bnd (M.nox (M.bnd (compL f1 (its1.drop (j + 1))) fun o => M.bnd (compLL f (its.drop (i + 1))) fun r => M.ret (o ++ r))) (gK ps) st'), fun _ h => h, fun x5 H6 y5 => ?_⟩
        obtain ⟨pv5, F6, hg5, e6, s6, rx5⟩ := ylds1 j F5 ρ5 H5 x5 H6 st5 jlt iv5.1 s5 (gE1 _ _ _ iv5.1) y5
        obtain ⟨nf6, nr6, hD6⟩ := apart_later e6 hD5 nf5 nr5
        have ez6 := ez5.trans e6
        have iv6 : Sx F4 ρ4 H4 F6 ρ5 H6 ∧ EnvOk C.K F6 ρ5 H6 env1 σ2 := ⟨iv5.1.trans (e6.sx s5.dis), iv5.2.mono e6 s5.dis⟩
        rw [drop_cons hg5, compL_cons, bnd_assoc] at hp5
        have ra6 := RepL.mono (e6.sx s5.dis) _ _ ra5
        have hl6 := ra6.len
        refine turn_ok (R := fun o => M.bnd (M.bnd (compL f1 (its1.drop (j + 1))) fun r => M.ret (o.toList ++ r)) fun o => M.bnd (compLL f (its.drop (i + 1))) fun r => M.ret (o ++ r))
          (fun F ρ H => Sx F4 ρ4 H4 F ρ H ∧ EnvOk C.K F ρ H env1 σ2) iv6 (fun _ _ _ _ _ _ _ s e h => ⟨h.1.trans (e.sx s.dis), h.2.mono e s.dis⟩) (fun _ _ _ _ n h => ⟨h.1.trans (sx_own n), h.2.ownw n nD2⟩) rx5 (iv6.2.wipe vs1) s6 ez6 nD hD6 nf6 nr6 ra6 (fun _ _ p => ?_) hsub1 hp5 ?_
        · have := gK_len p
          omega
        · intro F7 ρ7 H7 st7 acc7 o iv7 e7 s7 hD7 nf7 nr7 r7 l7 p7
          refine ⟨its1.length - (j + 1), by omega, F7, ρ7, st7, acc7, ps5 ++ o.toList, rfl, jlt, iv7, e7, s7, hD7, nf7, nr7, r7, ?_⟩
          have ea : (M.bnd (M.bnd (compL f1 (its1.drop (j + 1))) fun r => M.ret (o.toList ++ r)) fun o => M.bnd (compLL f (its.drop (i + 1))) fun r => M.ret (o ++ r)) = M.bnd (M.bnd (compL f1 (its1.drop (j + 1))) fun o => M.bnd (compLL f (its.drop (i + 1))) fun r => M.ret (o ++ r)) fun r => M.ret (o.toList ++ r) := by
            rw [bnd_assoc, bnd_assoc]
            congr 1
            funext r
            rw [bnd_assoc]
            show (M.bnd (compLL f (its.drop (i + 1))) fun r_1 => M.ret ((o.toList ++ r) ++ r_1)) = _
            congr 1
            funext r1
            show _ = M.ret (o.toList ++ (r ++ r1))
            rw [List.append_assoc]
          rw [ea, nox_map, gK_app] at p7
          exact p7
      · have hj : j = its1.length := by omega
        subst hj
        refine .inl ⟨stops1 H5 (gE1 _ _ _ iv5.1), its.length - (i + 1), by omega, F5, ρ5, st5, acc5, ps5, rfl, hlt, ez5, s5, hD5, nf5, nr5, ra5, ?_⟩
        rw [List.drop_length] at hp5
        have hp5 : PostG C.K W F1 ρ1 H1 σ (GV C.K .fr H Q) (M.bnd (M.nox (M.bnd (compLL f (its.drop (i + 1))) fun r => M.ret ([] ++ r))) (gK ps5) st5) := hp5
        rw [nox_map] at hp5
        exact hp5
  · have hi : i = its.length := by omega
    subst hi
    refine .inl ⟨stops H' (gE _ _ _ ez), ?_⟩
    rw [List.drop_length] at hp
    have hp : PostG C.K W F1 ρ1 H1 σ (GV C.K .fr H Q) (gK ps [] st') := hp
    unfold gK at hp
    rw [List.append_nil] at hp
    split at hp
    · exact hp F' ρ' H' ez s' _ ⟨⟨D, acc, rfl, nr, hD, ra⟩, D, ps, rfl, rfl, e1.track D nD, nf, nr⟩
    · exact hp.elim
end
end Pv

/-! P11: every expression that matches keeps its reading. -/
namespace Pv
open PySem PySem.Spec PyProof.Rows L2
section
variable {C : Cq}
theorem fold_pl {iter : Expr} (h : isPl iter = true) (env : PySem.Env) (x : Value) : foldedSetIterable iter env x = pure x := by
  cases iter <;> first | rfl | cases h
theorem own_sub {m : MC} {vs is : List Nat} (h : subIx is vs = true) : ∀ i ∈ is, i ∈ (ownOf m vs).map (·.2) := fun i hi => by
  rw [own_ix]; exact sub_of h i hi
section
variable {m : MC} {W : WX} {X : Cx}
theorem rd_comp (O : XOk C m W X) {elt1 tg iter : Expr} {ifs : List Expr} {scope : Scope} {pos : Pos} {elt : E} {g : G} {it : I} {cs : Ts} {vs : List Nat} (hb : L2.blkC m.N m.sc scope (ownOf m vs) = true) (hs : subIx g.ix vs = true) (hg : mtG (m.blk scope) g tg = true) (hp : isPl iter = true)
    (hi : PI X tg iter (RdI C W false it)) (hc : ∀ X', XOk C (m.blk scope) W0 X' → PTs X' ifs (RdTs C W0 cs)) (he : ∀ X', XOk C (m.blk scope) W0 X' → PE X' elt1 (RdX C W0 elt)) : PE X (.ListComp elt1 [⟨tg, iter, ifs, 0⟩] scope pos) (RdE C W (.comp elt g it cs vs)) := by
  have h := pe_lc (X := X) (elt := elt1) (tg := tg) (iter := iter) (ifs := ifs) (scope := scope) (own := ownOf m vs) (pos := pos) O.calm (by rw [O.N]; exact O.nd) hi (by rw [O.N, O.sc]; exact blkOk_by hb)
    (fun s H Cc cl fp => pgG (O.blk scope s H Cc cl fp) g tg hg) (fun s H Cc cl fp => hc _ (O.blk scope s H Cc cl fp)) (fun s H Cc cl fp => he _ (O.blk scope s H Cc cl fp)) (fun x => fold_pl hp _ x)
  rw [own_ix] at h
  exact PEimp h fun σ H Q q => comp_tLc (sub_of hs) q
theorem PEdz {X : Cx} {x : Expr} {t : TE} (h : PE X x t) : PE X x (fun σ H Q => (∀ a ks, Rd H a (.dT ks) → ks.length ≤ sizeLine) → t σ H Q) := ⟨fun pins s σ H Q I q => h.run pins s σ H Q I (q fun a ks r => (dt_rd I.hok r).1)⟩
theorem rd_compD (O : XOk C m W X) {elt1 tg : Expr} {ifs : List Expr} {scope : Scope} {pos px : Pos} {i : Nat} {x : Str} {elt : E} {g : G} {cs : Ts} {vs : List Nat} (hx : okN m i x = true) (hb : L2.blkC m.N m.sc scope (ownOf m vs) = true) (hs : subIx g.ix vs = true) (hg : mtG (m.blk scope) g tg = true)
    (hc : ∀ X', XOk C (m.blk scope) W0 X' → PTs X' ifs (RdTs C W0 cs)) (he : ∀ X', XOk C (m.blk scope) W0 X' → PE X' elt1 (RdX C W0 elt)) : PE X (.ListComp elt1 [⟨tg, .Name x px, ifs, 0⟩] scope pos) (RdE C W (.compD i elt g cs vs)) := by
  obtain ⟨o1, o2, o3, o4⟩ := okN_of O hx
  have h := pe_lc (X := X) (elt := elt1) (tg := tg) (iter := .Name x px) (ifs := ifs) (scope := scope) (own := ownOf m vs) (pos := pos) O.calm (by rw [O.N]; exact O.nd) (pi_keys (pe_var (pos := px) o1 o2 o3 o4)) (by rw [O.N, O.sc]; exact blkOk_by hb)
    (fun s H Cc cl fp => pgG (O.blk scope s H Cc cl fp) g tg hg) (fun s H Cc cl fp => hc _ (O.blk scope s H Cc cl fp)) (fun s H Cc cl fp => he _ (O.blk scope s H Cc cl fp)) (fun x => fold_pl rfl _ x)
  rw [own_ix] at h
  exact PEimp (PEdz (lock_or h)) fun σ H Q q sz => compD_t (sub_of hs) sz q
theorem rd_comp2 (O : XOk C m W X) {elt1 tg iter tg1 iter1 : Expr} {ifs ifs1 : List Expr} {scope : Scope} {pos : Pos} {elt : E} {g g1 : G} {it it1 : I} {cs cs1 : Ts} {vs vs1 : List Nat} (hb : L2.blkC m.N m.sc scope (ownOf m vs) = true) (hs : subIx g.ix vs = true) (hs1 : subIx g1.ix vs1 = true) (hv : subIx vs1 vs = true)
    (hg : mtG (m.blk scope) g tg = true) (hg1 : mtG (m.blk scope) g1 tg1 = true) (hp : isPl iter = true) (hp1 : isPl iter1 = true)
    (hi : PI X tg iter (RdI C W false it)) (hi1 : ∀ X', XOk C (m.blk scope) W0 X' → PI X' tg1 iter1 (RdI C W0 true it1)) (hc : ∀ X', XOk C (m.blk scope) W0 X' → PTs X' ifs (RdTs C W0 cs)) (hc1 : ∀ X', XOk C (m.blk scope) W0 X' → PTs X' ifs1 (RdTs C W0 cs1))
    (he : ∀ X', XOk C (m.blk scope) W0 X' → PE X' elt1 (RdX C W0 elt)) : PE X (.ListComp elt1 [⟨tg, iter, ifs, 0⟩, ⟨tg1, iter1, ifs1, 0⟩] scope pos) (RdE C W (.comp2 elt g it cs g1 it1 cs1 vs vs1)) := by
  have h := pe_lc2 (X := X) (elt := elt1) (tg := tg) (iter := iter) (ifs := ifs) (tg1 := tg1) (iter1 := iter1) (ifs1 := ifs1) (scope := scope) (own := ownOf m vs) (vs1 := vs1) (pos := pos) O.calm (by rw [O.N]; exact O.nd) hi (by rw [O.N, O.sc]; exact blkOk_by hb) (own_sub hv)
    (fun s H Cc cl fp => pgG (O.blk scope s H Cc cl fp) g tg hg) (fun s H Cc cl fp => hc _ (O.blk scope s H Cc cl fp)) (fun s H Cc cl fp => hi1 _ (O.blk scope s H Cc cl fp)) (fun s H Cc cl fp => pgG (O.blk scope s H Cc cl fp) g1 tg1 hg1) (fun s H Cc cl fp => hc1 _ (O.blk scope s H Cc cl fp)) (fun s H Cc cl fp => he _ (O.blk scope s H Cc cl fp)) (fun x => fold_pl hp _ x) (fun env x => fold_pl hp1 env x)
  rw [own_ix] at h
  exact PEimp h fun σ H Q q => comp2_tLc (sub_of hs) (sub_of hs1) q
theorem blk_nb {x : Expr} {op : CmpOp} (h : (!behindInMarks op x) = true) : behindInMarks op x = false := by simpa using h
end
theorem rd_boE {m : MC} {W : WX} {X : Cx} {isAnd : Bool} {as : Es} {e : Expr} (h : PE X e (RdBo C W isAnd as)) : PE X e (RdE C W (.bo isAnd as)) := PEimp h fun σ H Q ⟨F, ρ, env, st, hE, hS, p⟩ => ⟨F, ρ, env, st, hE, hS, by simp only [evE] at p; exact p⟩
theorem rd_tboE {m : MC} {W : WX} {X : Cx} {isAnd : Bool} {as : Ts} {e : Expr} (h : PT X e (RdBoT C W isAnd as)) : PT X e (RdT C W (.bo isAnd as)) := PTimp h fun σ H Q ⟨F, ρ, env, st, hE, hS, p⟩ => ⟨F, ρ, env, st, hE, hS, by simp only [evT] at p; exact p⟩
mutual
theorem sE (CO : CqOk C) : ∀ (e : E) (m : MC) (W : WX) (X : Cx) (O : XOk C m W X) (x : Expr), mtE m e x = true → PE X x (RdE C W e)
  | .var i, m, W, X, O, x, h => by
    cases x with
    | Name y pos => exact rd_var O (show okN m i y = true from h)
    | _ => exact (Bool.false_ne_true h).elim
  | .own i, m, W, X, O, x, h => by
    cases x with
    | Name y pos => exact rd_own O (show okN m i y = true from h)
    | _ => exact (Bool.false_ne_true h).elim
  | .non, m, W, X, O, x, h => by
    cases x with
    | Constant c k pos =>
      cases c with
      | none => exact rd_c (pe_non) rfl (fun _ _ => rfl) fun _ _ _ => .non
      | _ => exact (Bool.false_ne_true h).elim
    | _ => exact (Bool.false_ne_true h).elim
  | .bl b, m, W, X, O, x, h => by
    cases x with
    | Constant c k pos =>
      cases c with
      | bool c =>
        have e : b = c := by simpa using (show (b == c) = true from h)
        subst e
        exact rd_c (pe_bl) rfl (fun _ _ => rfl) fun _ _ _ => .bl _
      | _ => exact (Bool.false_ne_true h).elim
    | _ => exact (Bool.false_ne_true h).elim
  | .int i, m, W, X, O, x, h => by
    cases x with
    | Constant c k pos =>
      cases c with
      | int c =>
        have e : i = c := by simpa using (show (i == c) = true from h)
        subst e
        exact rd_c (pe_int) rfl (fun _ _ => rfl) fun _ _ _ => .int _
      | _ => exact (Bool.false_ne_true h).elim
    | _ => exact (Bool.false_ne_true h).elim
  | .str i, m, W, X, O, x, h => by
    cases x with
    | Constant c k pos =>
      cases c with
      | str c =>
        have e : i = c := by simpa using (show (i == c) = true from h)
        subst e
        exact rd_c (pe_str) rfl (fun _ _ => rfl) fun _ _ _ => .str _
      | _ => exact (Bool.false_ne_true h).elim
    | _ => exact (Bool.false_ne_true h).elim
  | .gint a i, m, W, X, O, x, h => by
    cases x with
    | Name y pos => exact rd_gint CO O h
    | _ => exact (Bool.false_ne_true h).elim
  | .bin o a b, m, W, X, O, x, h => by
    cases x with
    | BinOp l op r pos =>
      have h : (opM o == op && mtE m a l && mtE m b r) = true := h
      simp only [Bool.and_eq_true] at h
      have e : opM o = op := by simpa using h.1.1
      subst e
      exact rd_bin O (sE CO a m W X O l h.1.2) (sE CO b m W X O r h.2)
    | _ => exact (Bool.false_ne_true h).elim
  | .neg a, m, W, X, O, x, h => by
    cases x with
    | UnaryOp op r pos =>
      cases op with
      | USub => exact rd_neg O (sE CO a m W X O r h)
      | _ => exact (Bool.false_ne_true h).elim
    | _ => exact (Bool.false_ne_true h).elim
  | .cmp o a b, m, W, X, O, x, h => by
    cases x with
    | Compare l ops rs pos =>
      match ops, rs, h with
      | [op], [r], h =>
        have h : (copM o == op && !behindInMarks op r && mtE m a l && mtE m b r) = true := h
        simp only [Bool.and_eq_true] at h
        have e : copM o = op := by simpa using h.1.1.1
        subst e
        exact rd_cmp O (sE CO a m W X O l h.1.2) (sE CO b m W X O r h.2) (blk_nb h.1.1.2)
    | _ => exact (Bool.false_ne_true h).elim
  | .cmp2 o p a b c, m, W, X, O, x, h => by
    cases x with
    | Compare l ops rs pos =>
      match ops, rs, h with
      | [op, oq], [r, t], h =>
        have h : (copM o == op && copM p == oq && !lastMarks [op, oq] [r, t] && mtE m a l && mtE m b r && mtE m c t) = true := h
        simp only [Bool.and_eq_true] at h
        obtain ⟨⟨⟨⟨⟨h1, h2⟩, h3⟩, h4⟩, h5⟩, h6⟩ := h
        have e : copM o = op := by simpa using h1
        have e2 : copM p = oq := by simpa using h2
        subst e e2
        exact rd_cmp2 O (sE CO a m W X O l h4) (sE CO b m W X O r h5) (sE CO c m W X O t h6) (by simpa using h3)
    | _ => exact (Bool.false_ne_true h).elim
  | .bo isAnd as, m, W, X, O, x, h => by
    cases x with
    | BoolOp op es pos =>
      have h : (op == (if isAnd then BoolOp.And else .Or) && decide (0 < as.len) && mtEs m as es && as.esc) = true := h
      simp only [Bool.and_eq_true] at h
      have e : op = (if isAnd then BoolOp.And else .Or) := by simpa using h.1.1.1
      subst e
      exact rd_boE (m := m) (sBo CO isAnd as m W X O es pos (of_decide_eq_true h.1.1.2) h.1.2 h.2)
    | _ => exact (Bool.false_ne_true h).elim
  | .not a, m, W, X, O, x, h => by
    cases x with
    | UnaryOp op r pos =>
      cases op with
      | Not => exact rd_not (sE CO a m W X O r h)
      | _ => exact (Bool.false_ne_true h).elim
    | _ => exact (Bool.false_ne_true h).elim
  | .ite c a b, m, W, X, O, x, h => by
    cases x with
    | IfExp t y z pos =>
      have h : (mtT m c t && mtE m a y && mtE m b z && a.esc && b.esc) = true := h
      simp only [Bool.and_eq_true] at h
      exact rd_ite (sT CO c m W X O t h.1.1.1.1) (sE CO a m W X O y h.1.1.1.2) (sE CO b m W X O z h.1.1.2) h.1.2 h.2
    | _ => exact (Bool.false_ne_true h).elim
  | .tup as, m, W, X, O, x, h => by
    cases x with
    | Tuple es k pos =>
      have h : (mtEs m as es && as.esc && decide (as.len ≤ 1000)) = true := h
      simp only [Bool.and_eq_true] at h
      exact rd_tup (sL CO as m W X O es h.1.1 h.1.2) (of_decide_eq_true h.2)
    | _ => exact (Bool.false_ne_true h).elim
  | .lst as, m, W, X, O, x, h => by
    cases x with
    | List es pos =>
      have h : (mtEs m as es && as.esc && decide (as.len ≤ 1000)) = true := h
      simp only [Bool.and_eq_true] at h
      exact rd_lst (sL CO as m W X O es h.1.1 h.1.2) (of_decide_eq_true h.2)
    | _ => exact (Bool.false_ne_true h).elim
  | .ix a b, m, W, X, O, x, h => by
    cases x with
    | Subscript l r pos =>
      have hp : isPl r = true ∧ mtE m a l = true ∧ mtE m b r = true := by
        cases r with
        | Slice _ _ _ _ => simp [mtE, isPl] at h
        | _ => simpa [mtE, and_assoc] using h
      exact rd_ix O hp.1 (sE CO a m W X O l hp.2.1) (sE CO b m W X O r hp.2.2)
    | _ => exact (Bool.false_ne_true h).elim
  | .sl a lo hi, m, W, X, O, x, h => by
    cases x with
    | Subscript l r pos =>
      cases r with
      | Slice l1 h1 st p2 =>
        cases st with
        | none =>
          have h : (mtE m a l && mtOe m lo l1 && mtOe m hi h1) = true := h
          simp only [Bool.and_eq_true] at h
          exact rd_sl O (sE CO a m W X O l h.1.1) (sO CO lo m W X O l1 h.1.2) (sO CO hi m W X O h1 h.2)
        | some _ => exact (Bool.false_ne_true h).elim
      | _ => exact (Bool.false_ne_true h).elim
    | _ => exact (Bool.false_ne_true h).elim
  | .rev a, m, W, X, O, x, h => by
    cases x with
    | Subscript l r pos =>
      cases r with
      | Slice l1 h1 st p2 =>
        match l1, h1, st, h with
        | none, none, some (.UnaryOp .USub (.Constant (.int 1) _ _) _), h => exact rd_rev O (sE CO a m W X O l h)
      | _ => exact (Bool.false_ne_true h).elim
    | _ => exact (Bool.false_ne_true h).elim
  | .bc f as, m, W, X, O, x, h => by
    cases x with
    | Call fn es ks pos =>
      cases fn with
      | Name y p =>
        cases ks with
        | nil =>
          have h : (y == bfN f && glB m y && decide (0 < as.len) && mtEs m as es) = true := h
          simp only [Bool.and_eq_true] at h
          have e : y = bfN f := by simpa using h.1.1.1
          subst e
          exact rd_bf CO O h.1.1.2 h.2 (of_decide_eq_true h.1.2) (sV CO as m W X O es h.2)
        | cons _ _ => exact (Bool.false_ne_true h).elim
      | _ => exact (Bool.false_ne_true h).elim
    | _ => exact (Bool.false_ne_true h).elim
  | .isi a t, m, W, X, O, x, h => by
    cases x with
    | Call fn es ks pos =>
      cases fn with
      | Name y p =>
        match es, ks, h with
        | [l, .Name z q], [], h =>
          have h : (y == ("isinstance" : Str) && glB m y && z == Str.ofString t.nm && glB m z && isPl l && mtE m a l) = true := h
          simp only [Bool.and_eq_true] at h
          obtain ⟨⟨⟨⟨⟨h1, h2⟩, h3⟩, h4⟩, h5⟩, h6⟩ := h
          have e : y = ("isinstance" : Str) := by simpa using h1
          have e2 : z = Str.ofString t.nm := by simpa using h3
          subst e e2
          exact rd_isi CO O h2 h4 h5 (sE CO a m W X O l h6)
      | _ => exact (Bool.false_ne_true h).elim
    | _ => exact (Bool.false_ne_true h).elim
  | .call f as, m, W, X, O, x, h => by
    cases x with
    | Call fn es ks pos =>
      cases fn with
      | Name y p =>
        cases ks with
        | nil =>
          have h : (decide (m.ds[f]? = some y) && glB m y && mtEs m as es && as.esc) = true := h
          simp only [Bool.and_eq_true] at h
          exact rd_call CO O (of_decide_eq_true h.1.1.1) h.1.1.2 h.1.2 (sL CO as m W X O es h.1.2 h.2)
        | cons _ _ => exact (Bool.false_ne_true h).elim
      | _ => exact (Bool.false_ne_true h).elim
    | _ => exact (Bool.false_ne_true h).elim
  | .rg1 t a, m, W, X, O, x, h => by
    cases x with
    | Call fn es ks pos =>
      cases fn with
      | Name y p =>
        match es, ks, h with
        | [.Call (.Name z p2) [l] [] p3], [], h =>
          have h : (y == bfN (if t then .tuple else .list) && z == ("range" : Str) && glB m y && glB m z && isPl l && mtE m a l) = true := h
          simp only [Bool.and_eq_true] at h
          obtain ⟨⟨⟨⟨⟨h1, h2⟩, h3⟩, h4⟩, h5⟩, h6⟩ := h
          have e1 : y = bfN (if t then .tuple else .list) := by simpa using h1
          have e2 : z = ("range" : Str) := by simpa using h2
          subst e1 e2
          exact rd_rg1 CO O h3 h4 h5 (sE CO a m W X O l h6)
      | _ => exact (Bool.false_ne_true h).elim
    | _ => exact (Bool.false_ne_true h).elim
  | .rg2 t a b, m, W, X, O, x, h => by
    cases x with
    | Call fn es ks pos =>
      cases fn with
      | Name y p =>
        match es, ks, h with
        | [.Call (.Name z p2) [l, r] [] p3], [], h =>
          have h : (y == bfN (if t then .tuple else .list) && z == ("range" : Str) && glB m y && glB m z && isPl l && isPl r && mtE m a l && mtE m b r) = true := h
          simp only [Bool.and_eq_true] at h
          obtain ⟨⟨⟨⟨⟨⟨⟨h1, h2⟩, h3⟩, h4⟩, h5⟩, h5'⟩, h6⟩, h7⟩ := h
          have e1 : y = bfN (if t then .tuple else .list) := by simpa using h1
          have e2 : z = ("range" : Str) := by simpa using h2
          subst e1 e2
          exact rd_rg2 CO O h3 h4 h5 h5' (sE CO a m W X O l h6) (sE CO b m W X O r h7)
      | _ => exact (Bool.false_ne_true h).elim
    | _ => exact (Bool.false_ne_true h).elim
  | .cel a, m, W, X, O, x, h => by
    have h : (mtE m a x && decide (a.kind = .fr)) = true := by cases x <;> exact h
    rw [Bool.and_eq_true] at h
    exact rd_cel (of_decide_eq_true h.2) (sE CO a m W X O x h.1)
  | .lof a, m, W, X, O, x, h => by
    cases x with
    | Call fn es ks pos =>
      cases fn with
      | Name y p =>
        match es, ks, h with
        | [l], [], h =>
          have h : (y == bfN .list && glB m y && isPl l && mtE m a l) = true := h
          simp only [Bool.and_eq_true] at h
          obtain ⟨⟨⟨h1, h2⟩, h3⟩, h4⟩ := h
          have e : y = bfN .list := by simpa using h1
          subst e
          exact rd_lof CO O h2 h3 (sE CO a m W X O l h4)
      | _ => exact (Bool.false_ne_true h).elim
    | _ => exact (Bool.false_ne_true h).elim
  | .lset a, m, W, X, O, x, h => by
    cases x with
    | Call fn es ks pos =>
      cases fn with
      | Name y p =>
        match es, ks, h with
        | [.Call (.Name z p2) [l] [] p3], [], h =>
          have h : (y == bfN .len && z == bfN .set && glB m y && glB m z && isPl l && mtE m a l) = true := h
          simp only [Bool.and_eq_true] at h
          obtain ⟨⟨⟨⟨⟨h1, h2⟩, h3⟩, h4⟩, h5⟩, h6⟩ := h
          have e1 : y = bfN .len := by simpa using h1
          have e2 : z = bfN .set := by simpa using h2
          subst e1 e2
          exact rd_lset CO O h3 h4 h5 (sE CO a m W X O l h6)
      | _ => exact (Bool.false_ne_true h).elim
    | _ => exact (Bool.false_ne_true h).elim
  | .rpl a b, m, W, X, O, x, h => by
    cases x with
    | BinOp l op r pos =>
      cases op <;> try exact (Bool.false_ne_true h).elim
      have h : (mtE m a l && mtE m b r) = true := h
      simp only [Bool.and_eq_true] at h
      exact rd_rpl O (sE CO a m W X O l h.1) (sE CO b m W X O r h.2)
    | _ => exact (Bool.false_ne_true h).elim
  | .dnew, m, W, X, O, x, h => by
    cases x with
    | Dict ks vs pos =>
      match ks, vs, h with
      | [], [], _ => exact rd_dnew
    | _ => exact (Bool.false_ne_true h).elim
  | .dlit as e, m, W, X, O, x, h => by
    cases x with
    | Dict ks vs pos =>
      match ks, vs, h with
      | [some (.Tuple es k2 p2)], [y], h =>
        have h : (mtEs m as es && as.esc && decide (as.len ≤ 1000) && mtE m e y && e.esc) = true := h
        simp only [Bool.and_eq_true] at h
        obtain ⟨⟨⟨⟨h1, h2⟩, h3⟩, h4⟩, h5⟩ := h
        exact rd_dlit O (sL CO as m W X O es h1 h2) (of_decide_eq_true h3) (pe_X (sE CO e m W X O y h4) h5)
    | _ => exact (Bool.false_ne_true h).elim
  | .compD i elt g cs vs, m, W, X, O, x, h => by
    cases x with
    | ListComp elt1 gens scope pos =>
      match gens, h with
      | [⟨tg, .Name y px, ifs, asy⟩], h =>
        have h : (asy == 0 && okN m i y && L2.blkC m.N m.sc scope (ownOf m vs) && subIx g.ix vs && mtG (m.blk scope) g tg && mtTs (m.blk scope) cs ifs && mtE (m.blk scope) elt elt1 && elt.esc) = true := h
        simp only [Bool.and_eq_true] at h
        obtain ⟨⟨⟨⟨⟨⟨⟨h1, h2⟩, h3⟩, h4⟩, h5⟩, h6⟩, h7⟩, h8⟩ := h
        have e : asy = 0 := by simpa using h1
        subst e
        exact rd_compD O h2 h3 h4 h5 (fun X' O' => sTs CO cs _ _ X' O' ifs h6) (fun X' O' => pe_X (sE CO elt _ _ X' O' elt1 h7) h8)
    | _ => exact (Bool.false_ne_true h).elim
  | .comp elt g it cs vs, m, W, X, O, x, h => by
    cases x with
    | ListComp elt1 gens scope pos =>
      match gens, h with
      | [⟨tg, iter, ifs, asy⟩], h =>
        have h : (asy == 0 && L2.blkC m.N m.sc scope (ownOf m vs) && subIx g.ix vs && mtG (m.blk scope) g tg && isPl iter && mtI m it tg iter && mtTs (m.blk scope) cs ifs && mtE (m.blk scope) elt elt1 && elt.esc) = true := h
        simp only [Bool.and_eq_true] at h
        obtain ⟨⟨⟨⟨⟨⟨⟨⟨h1, h2⟩, h3⟩, h4⟩, h5⟩, h6⟩, h7⟩, h8⟩, h9⟩ := h
        have e : asy = 0 := by simpa using h1
        subst e
        exact rd_comp O h2 h3 h4 h5 (sI CO it false m W X O tg iter h6 (fun z => nomatch z)) (fun X' O' => sTs CO cs _ _ X' O' ifs h7) (fun X' O' => pe_X (sE CO elt _ _ X' O' elt1 h8) h9)
    | _ => exact (Bool.false_ne_true h).elim
  | .comp2 elt g it cs g1 it1 cs1 vs vs1, m, W, X, O, x, h => by
    cases x with
    | ListComp elt1 gens scope pos =>
      match gens, h with
      | [⟨tg, iter, ifs, asy⟩, ⟨tg1, iter1, ifs1, asy1⟩], h =>
        have h : (asy == 0 && asy1 == 0 && L2.blkC m.N m.sc scope (ownOf m vs) && subIx g.ix vs && subIx g1.ix vs1 && subIx vs1 vs &&
          mtG (m.blk scope) g tg && mtG (m.blk scope) g1 tg1 && isPl iter && isPl iter1 && mtI m it tg iter && mtI (m.blk scope) it1 tg1 iter1 && mtTs (m.blk scope) cs ifs && mtTs (m.blk scope) cs1 ifs1 && mtE (m.blk scope) elt elt1 && elt.esc && it1.esc) = true := h
        simp only [Bool.and_eq_true] at h
        obtain ⟨⟨⟨⟨⟨⟨⟨⟨⟨⟨⟨⟨⟨⟨⟨⟨h1, h1'⟩, h2⟩, h3⟩, h3'⟩, h3''⟩, h4⟩, h4'⟩, h5⟩, h5'⟩, h6⟩, h6'⟩, h7⟩, h7'⟩, h8⟩, h9⟩, h10⟩ := h
        have e : asy = 0 := by simpa using h1
        have e' : asy1 = 0 := by simpa using h1'
        subst e e'
        exact rd_comp2 O h2 h3 h3' h3'' h4 h4' h5 h5' (sI CO it false m W X O tg iter h6 (fun z => nomatch z)) (fun X' O' => sI CO it1 true _ _ X' O' tg1 iter1 h6' (fun _ => h10)) (fun X' O' => sTs CO cs _ _ X' O' ifs h7) (fun X' O' => sTs CO cs1 _ _ X' O' ifs1 h7') (fun X' O' => pe_X (sE CO elt _ _ X' O' elt1 h8) h9)
    | _ => exact (Bool.false_ne_true h).elim
theorem sV (CO : CqOk C) : ∀ (as : Es) (m : MC) (W : WX) (X : Cx) (O : XOk C m W X) (xs : List Expr), mtEs m as xs = true → PA X xs (RdV C W as)
  | .nil, m, W, X, O, [], h => rdV_nil
  | .nil, m, W, X, O, _ :: _, h => (Bool.false_ne_true h).elim
  | .cons _ _, m, W, X, O, [], h => (Bool.false_ne_true h).elim
  | .cons e r, m, W, X, O, x :: xs, h => by
    have h : (isPl x && mtE m e x && mtEs m r xs) = true := h
    simp only [Bool.and_eq_true] at h
    exact rdV_cons h.1.1 (sE CO e m W X O x h.1.2) (sV CO r m W X O xs h.2)
theorem sL (CO : CqOk C) : ∀ (as : Es) (m : MC) (W : WX) (X : Cx) (O : XOk C m W X) (xs : List Expr), mtEs m as xs = true → as.esc = true → PA X xs (RdL C W as)
  | .nil, m, W, X, O, [], h, _ => rdL_nil
  | .nil, m, W, X, O, _ :: _, h, _ => (Bool.false_ne_true h).elim
  | .cons _ _, m, W, X, O, [], h, _ => (Bool.false_ne_true h).elim
  | .cons e r, m, W, X, O, x :: xs, h, k => by
    have h : (isPl x && mtE m e x && mtEs m r xs) = true := h
    have k : (e.esc && r.esc) = true := k
    simp only [Bool.and_eq_true] at h k
    exact rdL_cons h.1.1 (pe_X (sE CO e m W X O x h.1.2) k.1) (sL CO r m W X O xs h.2 k.2)
theorem sO (CO : CqOk C) : ∀ (o : Oe) (m : MC) (W : WX) (X : Cx) (O : XOk C m W X) (x : Option Expr), mtOe m o x = true → PO X x (RdO C W o)
  | .no, m, W, X, O, none, h => rdO_no
  | .no, m, W, X, O, some _, h => (Bool.false_ne_true h).elim
  | .yes e, m, W, X, O, none, h => (Bool.false_ne_true h).elim
  | .yes e, m, W, X, O, some x, h => rdO_yes (sE CO e m W X O x h)
theorem sBo (CO : CqOk C) (isAnd : Bool) : ∀ (as : Es) (m : MC) (W : WX) (X : Cx) (O : XOk C m W X) (xs : List Expr) (pos : Pos), 0 < as.len → mtEs m as xs = true → as.esc = true → PE X (.BoolOp (if isAnd then .And else .Or) xs pos) (RdBo C W isAnd as)
  | .nil, m, W, X, O, _, pos, h0, h, _ => absurd h0 (Nat.lt_irrefl _)
  | .cons _ _, m, W, X, O, [], pos, h0, h, _ => (Bool.false_ne_true h).elim
  | .cons e .nil, m, W, X, O, [x], pos, h0, h, k => by
    have h : (isPl x && mtE m e x && true) = true := h
    have k : (e.esc && true) = true := k
    simp only [Bool.and_eq_true] at h k
    exact rd_bo1 (pe_X (sE CO e m W X O x h.1.2) k.1)
  | .cons e .nil, m, W, X, O, x :: y :: ys, pos, h0, h, k => by
    have h : (isPl x && mtE m e x && false) = true := h
    simp at h
  | .cons e (.cons e' r), m, W, X, O, [x], pos, h0, h, k => by
    have h : (isPl x && mtE m e x && false) = true := h
    simp at h
  | .cons e (.cons e' r), m, W, X, O, x :: y :: ys, pos, h0, h, k => by
    have h : (isPl x && mtE m e x && mtEs m (.cons e' r) (y :: ys)) = true := h
    have k : (e.esc && (Es.cons e' r).esc) = true := k
    simp only [Bool.and_eq_true] at h k
    exact rd_bo2 (sE CO e m W X O x h.1.2) (sBo CO isAnd (.cons e' r) m W X O (y :: ys) pos (Nat.succ_pos _) h.2 k.2)
theorem sT (CO : CqOk C) : ∀ (t : T) (m : MC) (W : WX) (X : Cx) (O : XOk C m W X) (x : Expr), mtT m t x = true → PT X x (RdT C W t)
  | .e a, m, W, X, O, x, h => by
    have h : (leafT x && mtE m a x) = true := by
      cases x <;> exact h
    simp only [Bool.and_eq_true] at h
    exact rd_te h.1 (sE CO a m W X O x h.2)
  | .cmp o a b, m, W, X, O, x, h => by
    cases x with
    | Compare l ops rs pos =>
      match ops, rs, h with
      | [op], [r], h =>
        have h : (copM o == op && !behindInMarks op r && mtE m a l && mtE m b r) = true := h
        simp only [Bool.and_eq_true] at h
        have e : copM o = op := by simpa using h.1.1.1
        subst e
        exact rd_tcmp O (sE CO a m W X O l h.1.2) (sE CO b m W X O r h.2) (blk_nb h.1.1.2)
    | _ => exact (Bool.false_ne_true h).elim
  | .cmp2 o p a b c, m, W, X, O, x, h => by
    cases x with
    | Compare l ops rs pos =>
      match ops, rs, h with
      | [op, oq], [r, t], h =>
        have h : (copM o == op && copM p == oq && !lastMarks [op, oq] [r, t] && mtE m a l && mtE m b r && mtE m c t) = true := h
        simp only [Bool.and_eq_true] at h
        obtain ⟨⟨⟨⟨⟨h1, h2⟩, h3⟩, h4⟩, h5⟩, h6⟩ := h
        have e : copM o = op := by simpa using h1
        have e2 : copM p = oq := by simpa using h2
        subst e e2
        exact rd_tcmp2 O (sE CO a m W X O l h4) (sE CO b m W X O r h5) (sE CO c m W X O t h6) (by simpa using h3)
    | _ => exact (Bool.false_ne_true h).elim
  | .bo isAnd ts, m, W, X, O, x, h => by
    cases x with
    | BoolOp op es pos =>
      have h : (op == (if isAnd then BoolOp.And else .Or) && mtBo m ts es) = true := h
      simp only [Bool.and_eq_true] at h
      have e : op = (if isAnd then BoolOp.And else .Or) := by simpa using h.1
      subst e
      exact rd_tboE (m := m) (sBoT CO isAnd ts m W X O es pos h.2).pt
    | _ => exact (Bool.false_ne_true h).elim
  | .not t, m, W, X, O, x, h => by
    cases x with
    | UnaryOp op r pos =>
      cases op with
      | Not => exact rd_tnot (sT CO t m W X O r h)
      | _ => exact (Bool.false_ne_true h).elim
    | _ => exact (Bool.false_ne_true h).elim
theorem sBoT (CO : CqOk C) (isAnd : Bool) : ∀ (as : Ts) (m : MC) (W : WX) (X : Cx) (O : XOk C m W X) (xs : List Expr) (pos : Pos), mtBo m as xs = true → PW X (.BoolOp (if isAnd then .And else .Or) xs pos) (RdBoT C W isAnd as)
  | .nil, m, W, X, O, xs, pos, h => by cases xs <;> exact (Bool.false_ne_true h).elim
  | .cons t .nil, m, W, X, O, [], pos, h => (Bool.false_ne_true h).elim
  | .cons t (.cons _ _), m, W, X, O, [], pos, h => (Bool.false_ne_true h).elim
  | .cons t .nil, m, W, X, O, [x], pos, h => rd_tbo1 (sT CO t m W X O x h)
  | .cons t .nil, m, W, X, O, x :: y :: ys, pos, h => (Bool.false_ne_true h).elim
  | .cons t (.cons u r), m, W, X, O, [x], pos, h => (Bool.false_ne_true h).elim
  | .cons t (.cons u r), m, W, X, O, x :: y :: ys, pos, h => by
    have h : (mtT m t x && mtBo m (.cons u r) (y :: ys)) = true := h
    simp only [Bool.and_eq_true] at h
    exact rd_tbo2 (sT CO t m W X O x h.1) (sBoT CO isAnd (.cons u r) m W X O (y :: ys) pos h.2)
theorem sTs (CO : CqOk C) : ∀ (as : Ts) (m : MC) (W : WX) (X : Cx) (O : XOk C m W X) (xs : List Expr), mtTs m as xs = true → PTs X xs (RdTs C W as)
  | .nil, m, W, X, O, [], h => rdTs_nil
  | .nil, m, W, X, O, _ :: _, h => (Bool.false_ne_true h).elim
  | .cons t .nil, m, W, X, O, [x], h => rdTs_one (sT CO t m W X O x h)
  | .cons t .nil, m, W, X, O, [], h => (Bool.false_ne_true h).elim
  | .cons t .nil, m, W, X, O, _ :: _ :: _, h => (Bool.false_ne_true h).elim
  | .cons t (.cons _ _), m, W, X, O, xs, h => by
    cases xs with
    | nil => exact (Bool.false_ne_true h).elim
    | cons x xs => cases xs <;> exact (Bool.false_ne_true h).elim
theorem sI (CO : CqOk C) : ∀ (it : I) (loop : Bool) (m : MC) (W : WX) (X : Cx) (O : XOk C m W X) (tg x : Expr), mtI m it tg x = true → (loop = true → it.esc = true) → PI X tg x (RdI C W loop it)
  | .val e, loop, m, W, X, O, tg, x, h, k => rdI_val O (sE CO e m W X O x (by cases tg <;> cases x <;> exact h)) k
  | .r1 a, loop, m, W, X, O, tg, x, h, k => by
    cases x with
    | Call fn es ks pos =>
      cases fn with
      | Name y p =>
        match es, ks, h with
        | [l], [], h =>
          have h : (y == ("range" : Str) && glB m y && isPl l && mtE m a l) = true := by cases tg <;> exact h
          simp only [Bool.and_eq_true] at h
          have e : y = ("range" : Str) := by simpa using h.1.1.1
          subst e
          exact rdI_r1 CO O h.1.1.2 h.1.2 (sE CO a m W X O l h.2)
        | [], _, h => cases tg <;> exact (Bool.false_ne_true h).elim
        | [_], _ :: _, h => cases tg <;> exact (Bool.false_ne_true h).elim
        | _ :: _ :: _, _, h => cases tg <;> exact (Bool.false_ne_true h).elim
      | _ => cases tg <;> exact (Bool.false_ne_true h).elim
    | _ => cases tg <;> exact (Bool.false_ne_true h).elim
  | .r2 a b, loop, m, W, X, O, tg, x, h, k => by
    cases x with
    | Call fn es ks pos =>
      cases fn with
      | Name y p =>
        match es, ks, h with
        | [l, r], [], h =>
          have h : (y == ("range" : Str) && glB m y && isPl l && isPl r && mtE m a l && mtE m b r) = true := by cases tg <;> exact h
          simp only [Bool.and_eq_true] at h
          obtain ⟨⟨⟨⟨⟨h1, h2⟩, h3⟩, h4⟩, h5⟩, h6⟩ := h
          have e : y = ("range" : Str) := by simpa using h1
          subst e
          exact rdI_r2 CO O h2 h3 h4 (sE CO a m W X O l h5) (sE CO b m W X O r h6)
        | [], _, h => cases tg <;> exact (Bool.false_ne_true h).elim
        | [_], _, h => cases tg <;> exact (Bool.false_ne_true h).elim
        | [_, _], _ :: _, h => cases tg <;> exact (Bool.false_ne_true h).elim
        | _ :: _ :: _ :: _, _, h => cases tg <;> exact (Bool.false_ne_true h).elim
      | _ => cases tg <;> exact (Bool.false_ne_true h).elim
    | _ => cases tg <;> exact (Bool.false_ne_true h).elim
  | .r3 a b c, loop, m, W, X, O, tg, x, h, k => by
    cases x with
    | Call fn es ks pos =>
      cases fn with
      | Name y p =>
        match es, ks, h with
        | [l, r, t], [], h =>
          have h : (y == ("range" : Str) && glB m y && isPl l && isPl r && isPl t && mtE m a l && mtE m b r && mtE m c t) = true := by cases tg <;> exact h
          simp only [Bool.and_eq_true] at h
          obtain ⟨⟨⟨⟨⟨⟨⟨h1, h2⟩, h3⟩, h4⟩, h4'⟩, h5⟩, h6⟩, h7⟩ := h
          have e : y = ("range" : Str) := by simpa using h1
          subst e
          exact rdI_r3 CO O h2 h3 h4 h4' (sE CO a m W X O l h5) (sE CO b m W X O r h6) (sE CO c m W X O t h7)
        | [], _, h => cases tg <;> exact (Bool.false_ne_true h).elim
        | [_], _, h => cases tg <;> exact (Bool.false_ne_true h).elim
        | [_, _], _, h => cases tg <;> exact (Bool.false_ne_true h).elim
        | [_, _, _], _ :: _, h => cases tg <;> exact (Bool.false_ne_true h).elim
        | _ :: _ :: _ :: _ :: _, _, h => cases tg <;> exact (Bool.false_ne_true h).elim
      | _ => cases tg <;> exact (Bool.false_ne_true h).elim
    | _ => cases tg <;> exact (Bool.false_ne_true h).elim
  | .zip a b, loop, m, W, X, O, tg, x, h, k => by
    cases tg with
    | Tuple elts kk tpos =>
      cases x with
      | Call fn es ks pos =>
        cases fn with
        | Name y p =>
          match es, ks, h with
          | [l, r], [], h =>
            have h : (y == ("zip" : Str) && glB m y && isPl l && isPl r && mtE m a l && mtE m b r) = true := h
            simp only [Bool.and_eq_true] at h
            obtain ⟨⟨⟨⟨⟨h1, h2⟩, h3⟩, h4⟩, h5⟩, h6⟩ := h
            have e : y = ("zip" : Str) := by simpa using h1
            subst e
            have kk : loop = true → a.esc = true ∧ b.esc = true := fun z => by
              have := k z
              simpa [I.esc] using this
            exact rdI_zip CO O h2 h3 h4 (sE CO a m W X O l h5) (sE CO b m W X O r h6) (fun z => (kk z).1) (fun z => (kk z).2)
        | _ => exact (Bool.false_ne_true h).elim
      | _ => exact (Bool.false_ne_true h).elim
    | _ => cases x <;> exact (Bool.false_ne_true h).elim
  | .enum a, loop, m, W, X, O, tg, x, h, k => by
    cases tg with
    | Tuple elts kk tpos =>
      cases x with
      | Call fn es ks pos =>
        cases fn with
        | Name y p =>
          match es, ks, h with
          | [l], [], h =>
            have h : (y == ("enumerate" : Str) && glB m y && isPl l && mtE m a l) = true := h
            simp only [Bool.and_eq_true] at h
            obtain ⟨⟨⟨h1, h2⟩, h3⟩, h5⟩ := h
            have e : y = ("enumerate" : Str) := by simpa using h1
            subst e
            exact rdI_enum CO O h2 h3 (sE CO a m W X O l h5) k
        | _ => exact (Bool.false_ne_true h).elim
      | _ => exact (Bool.false_ne_true h).elim
    | _ => cases x <;> exact (Bool.false_ne_true h).elim
end
end
end Pv

/-! P12: statements. -/
namespace Pv
open PySem PySem.Spec PyProof.Rows L2

/-! ### the middle of a def's body -/
structure Mid (K : PySem.W.Frag) (F0 : Addr → Prop) (ρ0 : List Addr) (H0 : Hp) (F : Addr → Prop) (ρ : List Addr) (H : Hp) (env : En) (σ : L2.St) (st : Sto) : Prop where
  ext : Ext F0 ρ0 H0 F ρ H
  envk : EnvOk K F ρ H env σ
  new : ∀ (i : Nat) (p : PV) (a : Addr), look env i = .own p → σ[i]? = some (some (.ref a)) → H0 a = none
  sto : StoOk K F ρ H st
def PostS (K : PySem.W.Frag) (W : WX) (F0 : Addr → Prop) (ρ0 : List Addr) (H0 : Hp) (F : Addr → Prop) (ρ : List Addr) (H : Hp) (D : Ends) : SOut → Prop
  | .ok (.nx env') st' => ∀ F' ρ' H' σ', Sx F ρ H F' ρ' H' → Mid K F0 ρ0 H0 F' ρ' H' env' σ' st' → D.nx σ' H'
  | .ok (.bk env') st' => ∀ F' ρ' H' σ', Sx F ρ H F' ρ' H' → Mid K F0 ρ0 H0 F' ρ' H' env' σ' st' → D.bk σ' H'
  | .ok (.ct env') st' => ∀ F' ρ' H' σ', Sx F ρ H F' ρ' H' → Mid K F0 ρ0 H0 F' ρ' H' env' σ' st' → D.ct σ' H'
  | .ok (.rt p) st' => ∀ F' ρ' H' v, Ext F0 ρ0 H0 F' ρ' H' → StoOk K F' ρ' H' st' → Rep K F' ρ' H' v p → D.rt v H'
  | .exn x env' st' => ∀ cls d F' ρ' H' σ', Mid K F0 ρ0 H0 F' ρ' H' env' σ' st' → ExcRep K cls d H' x → W cls d σ' H'
  | .bad => False
section
variable {K : PySem.W.Frag} {W : WX} {F0 F F1 : Addr → Prop} {ρ0 ρ ρ1 : List Addr} {H0 H H1 : Hp} {env : En} {σ : L2.St} {st st1 : Sto} {D : Ends}
theorem Mid.mono (m : Mid K F0 ρ0 H0 F ρ H env σ st) (e : Ext F ρ H F1 ρ1 H1) (s : StoOk K F1 ρ1 H1 st1) : Mid K F0 ρ0 H0 F1 ρ1 H1 env σ st1 :=
  ⟨m.ext.trans e, m.envk.mono e m.sto.dis, m.new, s⟩
theorem PostS.mono {o : SOut} (e : Sx F ρ H F1 ρ1 H1) (h : PostS K W F0 ρ0 H0 F ρ H D o) : PostS K W F0 ρ0 H0 F1 ρ1 H1 D o := by
  cases o with
  | ok f st' =>
    cases f with
    | nx env' => exact fun F' ρ' H' σ' s m => h F' ρ' H' σ' (e.trans s) m
    | rt v => exact h
    | bk env' => exact fun F' ρ' H' σ' s m => h F' ρ' H' σ' (e.trans s) m
    | ct env' => exact fun F' ρ' H' σ' s m => h F' ρ' H' σ' (e.trans s) m
  | exn x env' st' => exact h
  | bad => exact h
theorem PostS.lift {α : Type} {m : M α} {f : α → Sto → SOut} {G1 : (Addr → Prop) → List Addr → Hp → α → Prop} (mid : Mid K F0 ρ0 H0 F ρ H env σ st) (h : PostS K W F0 ρ0 H0 F ρ H D (lift m env st f))
    (g : ∀ a st1 F1 ρ1 H1, Ext F ρ H F1 ρ1 H1 → Mid K F0 ρ0 H0 F1 ρ1 H1 env σ st1 → PostS K W F0 ρ0 H0 F1 ρ1 H1 D (f a st1) → G1 F1 ρ1 H1 a) : PostG K W F ρ H σ G1 (m st) := by
  unfold Pv.lift at h
  cases e : m st with
  | ok a st1 =>
    rw [e] at h
    exact fun F' ρ' H' e' s => g a st1 F' ρ' H' e' (mid.mono e' s) (PostS.mono (e'.sx mid.sto.dis) h)
  | exn x st1 =>
    rw [e] at h
    exact fun c d H' F' ρ' e' s r => h c d F' ρ' H' σ (mid.mono e' s) r
  | bad => rw [e] at h; exact h
theorem Mid.put {i : Nat} {v : V} {p : PV} (m : Mid K F0 ρ0 H0 F ρ H env σ st) (hi : i < env.length) (r : Rep K F ρ H v p) : Mid K F0 ρ0 H0 F ρ H (put env i (.val p)) (σ.set i (some v)) st := by
  refine ⟨m.ext, m.envk.put hi r, fun j q a h1 h2 => ?_, m.sto⟩
  by_cases hj : j = i
  · rw [hj, look_put_same hi] at h1; cases h1
  · rw [look_put_ne hj] at h1
    rw [List.getElem?_set_ne (Ne.symm hj)] at h2
    exact m.new j q a h1 h2
theorem Mid.bind {g : G} {v : V} {p : PV} {env' : En} {Q : L2.St → Hp → Prop} (m : Mid K F0 ρ0 H0 F ρ H env σ st) (r : Rep K F ρ H v p) (hb : bindG g p env = some env') (q : ∀ σ', Mid K F0 ρ0 H0 F ρ H env' σ' st → Q σ' H) : tgG K g v σ H Q :=
  bindG_ok g v p env env' σ Q r hb m.envk fun σ' h1 h2 => q σ' ⟨m.ext, h1, fun i q a l1 l2 => by
    obtain ⟨a1, a2⟩ := bindG_own g p env env' i q hb l1
    have w1 := wipe_out (σ := σ') a2
    rw [h2 g.ix fun _ h => h, wipe_out a2] at w1
    rw [← w1] at l2
    exact m.new i q a a1 l2, m.sto⟩
theorem look_wipeE : ∀ {ks : List Nat} {env : En} {i : Nat} {s : Slot}, look (wipeE env ks) i = s → s ≠ .no → look env i = s
  | [], _, _, _, h, _ => h
  | k :: ks, env, i, s, h, n => by
    have h : look (put (wipeE env ks) k .no) i = s := h
    by_cases hk : i = k
    · subst hk
      by_cases hl : i < (wipeE env ks).length
      · rw [look_put_same hl] at h; exact absurd h.symm n
      · have := look_len (env := put (wipeE env ks) i .no) (i := i) (by rw [h]; exact n)
        rw [put_len] at this
        exact absurd this hl
    · rw [look_put_ne hk] at h
      exact look_wipeE h n
theorem wipeE_len : ∀ {ks : List Nat} {env : En}, (wipeE env ks).length = env.length
  | [], _ => rfl
  | k :: ks, env => by show (put (wipeE env ks) k .no).length = _; rw [put_len, wipeE_len]
theorem Mid.kill {ks : List Nat} (m : Mid K F0 ρ0 H0 F ρ H env σ st) : Mid K F0 ρ0 H0 F ρ H (kills env ks) σ st := by
  have l : ∀ {i s}, look (kills env ks) i = s → s ≠ .no → look env i = s := fun h n => look_wipeE h n
  exact ⟨m.ext, ⟨by unfold kills; rw [wipeE_len]; exact m.envk.len, fun i p h => m.envk.val i p (l h (by simp)), fun i p h => m.envk.own i p (l h (by simp)), fun i j p q a h1 h2 => m.envk.dif i j p q a (l h1 (by simp)) (l h2 (by simp))⟩,
    fun i p a h => m.new i p a (l h (by simp)), m.sto⟩
/-- a cell is written -/
theorem Mid.cell {k : Nat} {a : Addr} {vs : List V} {ps : List PV} (m : Mid K F0 ρ0 H0 F ρ H env σ st) (h : ρ[k]? = some a) (r : RepL K F ρ H vs ps) : Mid K F0 ρ0 H0 F ρ (upd H a (.lst vs)) env σ (st.set k (.lst ps)) ∧ Sx F ρ H F ρ (upd H a (.lst vs)) := by
  have hm := List.mem_of_getElem? h
  have nf := m.sto.dis a hm
  have sx : Sx F ρ H F ρ (upd H a (.lst vs)) := sx_own nf
  refine ⟨⟨⟨m.ext.sub, m.ext.new, fun b o e n => ?_, fun b e => ?_, m.ext.cel, m.ext.celn⟩, ⟨m.envk.len, fun i p e => ?_, fun i p e => ?_, m.envk.dif⟩, m.new, ⟨by rw [List.length_set]; exact m.sto.len, m.sto.nd, m.sto.dis, fun b f => ?_, fun j b p h1 h2 => ?_⟩⟩, sx⟩
  · have hb : b ≠ a := fun z => by
      rw [z] at n e
      rcases m.ext.celn a hm with q | q
      · exact n q
      · rw [e] at q; cases q
    rw [upd_ne hb]; exact m.ext.keep b o e n
  · by_cases hb : b = a
    · rw [hb, upd_same] at e; cases e
    · rw [upd_ne hb] at e; exact m.ext.track b e
  · obtain ⟨v, e1, r1⟩ := m.envk.val i p e
    exact ⟨v, e1, Rep.mono sx _ _ r1⟩
  · obtain ⟨b, e1, f, n, c⟩ := m.envk.own i p e
    exact ⟨b, e1, f, n, c.mono sx fun o ho => by rw [upd_ne (show b ≠ a from fun z => n (by rw [z]; exact hm))]; exact ho⟩
  · obtain ⟨o, e⟩ := m.sto.trk b f
    exact ⟨o, by rw [upd_ne (show b ≠ a from fun z => nf (by rw [← z]; exact f))]; exact e⟩
  · by_cases hj : j = k
    · subst hj
      rw [h] at h1; cases h1
      rw [List.getElem?_set_self (by rw [← m.sto.len]; exact (List.getElem?_eq_some_iff.mp h).1)] at h2
      cases h2
      exact ⟨vs, upd_same, RepL.mono sx _ _ r⟩
    · rw [List.getElem?_set_ne (Ne.symm hj)] at h2
      refine (m.sto.at_ j b p h1 h2).mono sx fun o ho => ?_
      rw [upd_ne (show b ≠ a from fun z => hj ?_)]
      · exact ho
      · rw [z] at h1
        obtain ⟨l1, g1⟩ := List.getElem?_eq_some_iff.mp h1
        obtain ⟨l2, g2⟩ := List.getElem?_eq_some_iff.mp h
        exact (List.getElem_inj m.sto.nd).mp (g1.trans g2.symm)
/-- an owned list is written -/
theorem Mid.ownw {i : Nat} {a : Addr} {q : PV} {vs : List V} {ps : List PV} (m : Mid K F0 ρ0 H0 F ρ H env σ st) (hl : look env i = .own q) (hs : σ[i]? = some (some (.ref a))) (r : RepL K F ρ H vs ps) :
    Mid K F0 ρ0 H0 F ρ (upd H a (.lst vs)) (Pv.put env i (.own (.lst ps))) σ st ∧ Sx F ρ H F ρ (upd H a (.lst vs)) := by
  obtain ⟨b, e, nf, nr, c⟩ := m.envk.own i q hl
  rw [hs] at e
  cases e
  have hi : i < env.length := look_len (by rw [hl]; simp)
  have sx : Sx F ρ H F ρ (upd H a (.lst vs)) := sx_own nf
  refine ⟨⟨m.ext.own (m.new i q a hl hs), ⟨by rw [put_len]; exact m.envk.len, fun j p e => ?_, fun j p e => ?_, fun j l p p' b h1 h2 h3 h4 => ?_⟩, fun j p b h1 h2 => ?_, m.sto.own nf nr⟩, sx⟩
  · by_cases hj : j = i
    · rw [hj, look_put_same hi] at e; cases e
    · rw [look_put_ne hj] at e
      obtain ⟨v, e1, r1⟩ := m.envk.val j p e
      exact ⟨v, e1, Rep.mono sx _ _ r1⟩
  · by_cases hj : j = i
    · subst hj
      rw [look_put_same hi] at e
      cases e
      exact ⟨a, hs, nf, nr, vs, upd_same, RepL.mono sx _ _ r⟩
    · rw [look_put_ne hj] at e
      obtain ⟨b, e1, f, n, c⟩ := m.envk.own j p e
      refine ⟨b, e1, f, n, c.mono sx fun o ho => ?_⟩
      rw [upd_ne (show b ≠ a from fun z => hj (m.envk.dif j i p q a e hl (by rw [e1, z]) hs))]
      exact ho
  · have key : ∀ {j p}, look (Pv.put env i (.own (.lst ps))) j = .own p → ∃ p', look env j = .own p' := fun {j p} h => by
      by_cases hj : j = i
      · rw [hj]; exact ⟨q, hl⟩
      · rw [look_put_ne hj] at h; exact ⟨p, h⟩
    obtain ⟨_, h1⟩ := key h1
    obtain ⟨_, h2⟩ := key h2
    exact m.envk.dif j l _ _ b h1 h2 h3 h4
  · by_cases hj : j = i
    · subst hj
      exact m.new j q b hl h2
    · rw [look_put_ne hj] at h1
      exact m.new j p b h1 h2
/-- a fresh list gets an owner -/
theorem Mid.putC {F1 : Addr → Prop} {ρ1 : List Addr} {H1 : Hp} {st1 : Sto} {i : Nat} {a : Addr} {q0 : PV} (m : Mid K F0 ρ0 H0 F ρ H env σ st) (m1 : Mid K F0 ρ0 H0 F1 ρ1 H1 env σ st1) (hi : i < env.length) (n : H a = none) (nf : ¬ F1 a) (nr : a ∉ ρ1) (hc : CelRep K F1 ρ1 H1 a q0) : Mid K F0 ρ0 H0 F1 ρ1 H1 (Pv.put env i (.own q0)) (σ.set i (some (.ref a))) st1 := by
  have hs : i < σ.length := by rw [← m.envk.len]; exact hi
  have other : ∀ {j p b}, look env j = .own p → σ[j]? = some (some (.ref b)) → b ≠ a := fun {j p b} h1 h2 z => by
    obtain ⟨c, e1, _, _, cr⟩ := m.envk.own j p h1
    rw [h2] at e1
    cases e1
    obtain ⟨o, ho⟩ := cr.there
    rw [z, n] at ho
    cases ho
  refine ⟨m1.ext, ⟨by rw [put_len, List.length_set]; exact m1.envk.len, fun j p e => ?_, fun j p e => ?_, fun j l p p' b h1 h2 h3 h4 => ?_⟩, fun j p b h1 h2 => ?_, m1.sto⟩
  · by_cases hj : j = i
    · rw [hj, look_put_same hi] at e; cases e
    · rw [look_put_ne hj] at e
      rw [List.getElem?_set_ne (Ne.symm hj)]
      exact m1.envk.val j p e
  · by_cases hj : j = i
    · subst hj
      rw [look_put_same hi] at e
      cases e
      exact ⟨a, List.getElem?_set_self hs, nf, nr, hc⟩
    · rw [look_put_ne hj] at e
      rw [List.getElem?_set_ne (Ne.symm hj)]
      exact m1.envk.own j p e
  · by_cases hj : j = i
    · by_cases hl : l = i
      · rw [hj, hl]
      · rw [look_put_ne hl] at h2
        rw [List.getElem?_set_ne (Ne.symm hl)] at h4
        rw [hj, List.getElem?_set_self hs] at h3
        cases h3
        exact absurd rfl (other h2 h4)
    · by_cases hl : l = i
      · rw [look_put_ne hj] at h1
        rw [List.getElem?_set_ne (Ne.symm hj)] at h3
        rw [hl, List.getElem?_set_self hs] at h4
        cases h4
        exact absurd rfl (other h1 h3)
      · rw [look_put_ne hj] at h1
        rw [look_put_ne hl] at h2
        rw [List.getElem?_set_ne (Ne.symm hj)] at h3
        rw [List.getElem?_set_ne (Ne.symm hl)] at h4
        exact m1.envk.dif j l p p' b h1 h2 h3 h4
  · by_cases hj : j = i
    · rw [hj, List.getElem?_set_self hs] at h2
      cases h2
      exact m.ext.track a n
    · rw [look_put_ne hj] at h1
      rw [List.getElem?_set_ne (Ne.symm hj)] at h2
      exact m1.new j p b h1 h2
theorem Mid.putO {F1 : Addr → Prop} {ρ1 : List Addr} {H1 : Hp} {st1 : Sto} {i : Nat} {v : V} {ps : List PV} (m : Mid K F0 ρ0 H0 F ρ H env σ st) (m1 : Mid K F0 ρ0 H0 F1 ρ1 H1 env σ st1) (hi : i < env.length) (r : Res K H F1 ρ1 H1 v (.lst ps) .fr) : Mid K F0 ρ0 H0 F1 ρ1 H1 (Pv.put env i (.own (.lst ps))) (σ.set i (some v)) st1 := by
  obtain ⟨w, a, qs, rfl, eq, n, nf, nr⟩ := r
  obtain ⟨b, vs, eb, _, hb, rl⟩ := w
  cases eb
  exact m.putC m1 hi n nf nr ⟨vs, hb, rl⟩
theorem Mid.putOd {F1 : Addr → Prop} {ρ1 : List Addr} {H1 : Hp} {st1 : Sto} {i : Nat} {v : V} {kvs : List (PV × PV)} (m : Mid K F0 ρ0 H0 F ρ H env σ st) (m1 : Mid K F0 ρ0 H0 F1 ρ1 H1 env σ st1) (hi : i < env.length) (r : Res K H F1 ρ1 H1 v (.dct kvs) .fd) : Mid K F0 ρ0 H0 F1 ρ1 H1 (Pv.put env i (.own (.dct kvs))) (σ.set i (some v)) st1 := by
  obtain ⟨a, qs, rfl, e, nr, hb, ok, n, nf⟩ := r
  cases e
  exact m.putC m1 hi n nf nr ⟨hb, ok⟩
/-- an owned dict is written -/
theorem Mid.ownwD {i : Nat} {a : Addr} {q : PV} {kvs : List (PV × PV)} (m : Mid K F0 ρ0 H0 F ρ H env σ st) (hl : look env i = .own q) (hs : σ[i]? = some (some (.ref a))) (hok : dOk kvs = true) :
    Mid K F0 ρ0 H0 F ρ (upd H a (.dT (kvs.map fD))) (Pv.put env i (.own (.dct kvs))) σ st ∧ Sx F ρ H F ρ (upd H a (.dT (kvs.map fD))) := by
  obtain ⟨b, e, nf, nr, c⟩ := m.envk.own i q hl
  rw [hs] at e
  cases e
  have hi : i < env.length := look_len (by rw [hl]; simp)
  have sx : Sx F ρ H F ρ (upd H a (.dT (kvs.map fD))) := sx_own nf
  have key : ∀ {j p}, look (Pv.put env i (.own (.dct kvs))) j = .own p → ∃ p', look env j = .own p' := fun {j p} h => by
    by_cases hj : j = i
    · rw [hj]; exact ⟨q, hl⟩
    · rw [look_put_ne hj] at h; exact ⟨p, h⟩
  refine ⟨⟨m.ext.own (m.new i q a hl hs), ⟨by rw [put_len]; exact m.envk.len, fun j p e => ?_, fun j p e => ?_, fun j l p p' b h1 h2 h3 h4 => ?_⟩, fun j p b h1 h2 => ?_, m.sto.own nf nr⟩, sx⟩
  · by_cases hj : j = i
    · rw [hj, look_put_same hi] at e; cases e
    · rw [look_put_ne hj] at e
      obtain ⟨v, e1, r1⟩ := m.envk.val j p e
      exact ⟨v, e1, Rep.mono sx _ _ r1⟩
  · by_cases hj : j = i
    · subst hj
      rw [look_put_same hi] at e
      cases e
      exact ⟨a, hs, nf, nr, upd_same, hok⟩
    · rw [look_put_ne hj] at e
      obtain ⟨b, e1, f, n, c⟩ := m.envk.own j p e
      refine ⟨b, e1, f, n, c.mono sx fun o ho => ?_⟩
      rw [upd_ne (show b ≠ a from fun z => hj (m.envk.dif j i p q a e hl (by rw [e1, z]) hs))]
      exact ho
  · obtain ⟨_, h1⟩ := key h1
    obtain ⟨_, h2⟩ := key h2
    exact m.envk.dif j l _ _ b h1 h2 h3 h4
  · obtain ⟨_, h1⟩ := key h1
    exact m.new j _ b h1 h2
/-- an owned list becomes a value -/
theorem Mid.frz {i : Nat} {ps : List PV} (m : Mid K F0 ρ0 H0 F ρ H env σ st) (hl : look env i = .own (.lst ps)) : ∃ F', Sx F ρ H F' ρ H ∧ Mid K F0 ρ0 H0 F' ρ H (Pv.put env i (.val (.lst ps))) σ st := by
  obtain ⟨a, hs, nf, nr, vs, hb, rl⟩ := m.envk.own i _ hl
  have hi : i < env.length := look_len (by rw [hl]; simp)
  have sx : Sx F ρ H (fun b => F b ∨ b = a) ρ H := ⟨fun _ h => .inl h, fun _ _ _ h => h, fun _ _ h => h⟩
  have hn := m.new i _ a hl hs
  refine ⟨fun b => F b ∨ b = a, sx, ⟨fun b h => .inl (m.ext.sub b h), fun b h => h.elim (m.ext.new b) fun z => .inr (.inl (by rw [z]; exact hn)), m.ext.keep, m.ext.track, m.ext.cel, m.ext.celn⟩,
    ⟨by rw [put_len]; exact m.envk.len, fun j p e => ?_, fun j p e => ?_, fun j l p p' b h1 h2 h3 h4 => ?_⟩, fun j p b h1 h2 => ?_,
    ⟨m.sto.len, m.sto.nd, fun b hm h => h.elim (m.sto.dis b hm) fun z => nr (z ▸ hm), fun b h => h.elim (m.sto.trk b) fun z => ⟨.lst vs, by rw [z]; exact hb⟩, fun k b p h1 h2 => (m.sto.at_ k b p h1 h2).mono sx fun _ h => h⟩⟩
  · by_cases hj : j = i
    · subst hj
      rw [look_put_same hi] at e
      cases e
      exact ⟨_, hs, .lst (.inr rfl) hb (RepL.mono sx _ _ rl)⟩
    · rw [look_put_ne hj] at e
      obtain ⟨v, e1, r1⟩ := m.envk.val j p e
      exact ⟨v, e1, Rep.mono sx _ _ r1⟩
  · by_cases hj : j = i
    · rw [hj, look_put_same hi] at e; cases e
    · rw [look_put_ne hj] at e
      obtain ⟨b, e1, f, n, c⟩ := m.envk.own j p e
      exact ⟨b, e1, fun h => h.elim f fun z => hj (m.envk.dif j i p _ a e hl (by rw [e1, z]) hs), n, c.mono sx fun _ h => h⟩
  · have key : ∀ {j p}, look (Pv.put env i (.val (.lst ps))) j = .own p → look env j = .own p := fun {j p} h => by
      by_cases hj : j = i
      · rw [hj, look_put_same hi] at h; cases h
      · rw [look_put_ne hj] at h; exact h
    exact m.envk.dif j l p p' b (key h1) (key h2) h3 h4
  · by_cases hj : j = i
    · rw [hj, look_put_same hi] at h1; cases h1
    · rw [look_put_ne hj] at h1; exact m.new j p b h1 h2
theorem Mid.frzD {i : Nat} {kvs : List (PV × PV)} (m : Mid K F0 ρ0 H0 F ρ H env σ st) (hl : look env i = .own (.dct kvs)) : ∃ F', Sx F ρ H F' ρ H ∧ Mid K F0 ρ0 H0 F' ρ H (Pv.put env i (.val (.dct kvs))) σ st := by
  obtain ⟨a, hs, nf, nr, hb, hok⟩ := m.envk.own i _ hl
  have hi : i < env.length := look_len (by rw [hl]; simp)
  have sx : Sx F ρ H (fun b => F b ∨ b = a) ρ H := ⟨fun _ h => .inl h, fun _ _ _ h => h, fun _ _ h => h⟩
  have hn := m.new i _ a hl hs
  refine ⟨fun b => F b ∨ b = a, sx, ⟨fun b h => .inl (m.ext.sub b h), fun b h => h.elim (m.ext.new b) fun z => .inr (.inl (by rw [z]; exact hn)), m.ext.keep, m.ext.track, m.ext.cel, m.ext.celn⟩,
    ⟨by rw [put_len]; exact m.envk.len, fun j p e => ?_, fun j p e => ?_, fun j l p p' b h1 h2 h3 h4 => ?_⟩, fun j p b h1 h2 => ?_,
    ⟨m.sto.len, m.sto.nd, fun b hm h => h.elim (m.sto.dis b hm) fun z => nr (z ▸ hm), fun b h => h.elim (m.sto.trk b) fun z => ⟨.dT (kvs.map fD), by rw [z]; exact hb⟩, fun k b p h1 h2 => (m.sto.at_ k b p h1 h2).mono sx fun _ h => h⟩⟩
  · by_cases hj : j = i
    · subst hj
      rw [look_put_same hi] at e
      cases e
      exact ⟨_, hs, .dct (.inr rfl) (.inl hb) hok⟩
    · rw [look_put_ne hj] at e
      obtain ⟨v, e1, r1⟩ := m.envk.val j p e
      exact ⟨v, e1, Rep.mono sx _ _ r1⟩
  · by_cases hj : j = i
    · rw [hj, look_put_same hi] at e; cases e
    · rw [look_put_ne hj] at e
      obtain ⟨b, e1, f, n, c⟩ := m.envk.own j p e
      exact ⟨b, e1, fun h => h.elim f fun z => hj (m.envk.dif j i p _ a e hl (by rw [e1, z]) hs), n, c.mono sx fun _ h => h⟩
  · have key : ∀ {j p}, look (Pv.put env i (.val (.dct kvs))) j = .own p → look env j = .own p := fun {j p} h => by
      by_cases hj : j = i
      · rw [hj, look_put_same hi] at h; cases h
      · rw [look_put_ne hj] at h; exact h
    exact m.envk.dif j l p p' b (key h1) (key h2) h3 h4
  · by_cases hj : j = i
    · rw [hj, look_put_same hi] at h1; cases h1
    · rw [look_put_ne hj] at h1; exact m.new j p b h1 h2
end
section
variable {C : Cq} {W : WX}
def RdS (C : Cq) (W : WX) (s : S) : TS := fun D σ H => ∃ F0 ρ0 H0 F ρ env st, Mid C.K F0 ρ0 H0 F ρ H env σ st ∧ PostS C.K W F0 ρ0 H0 F ρ H D (evS C.Φ s env st)
def RdSs (C : Cq) (W : WX) (s : Ss) : TS := fun D σ H => ∃ F0 ρ0 H0 F ρ env st, Mid C.K F0 ρ0 H0 F ρ H env σ st ∧ PostS C.K W F0 ρ0 H0 F ρ H D (evSs C.Φ s env st)
theorem PSimp {X : Cx} {s : Stmt} {t t' : TS} (h : PS X s t) (i : ∀ D σ H, t' D σ H → t D σ H) : PS X s t' := ⟨fun pins s σ H D I q => h.run pins s σ H D I (i D σ H q)⟩
theorem PSsimp {X : Cx} {s : List Stmt} {t t' : TS} (h : PSs X s t) (i : ∀ D σ H, t' D σ H → t D σ H) : PSs X s t' := ⟨fun pins s σ H D I q => h.run pins s σ H D I (i D σ H q)⟩
theorem asg_t {g : G} {e : E} {D : Ends} {σ : L2.St} {H : Hp} (q : RdS C W (.asg g e) D σ H) : tAsg (RdX C W e) (tgG C.K g) D σ H := by
  obtain ⟨F0, ρ0, H0, F, ρ, env, st, m, p⟩ := q
  simp only [evS] at p
  refine ⟨F, ρ, env, st, m.envk, m.sto, PostS.lift m p fun x st1 F1 ρ1 H1 e1 m1 p1 v r => ?_⟩
  cases hb : bindG g x env with
  | none => rw [hb] at p1; exact p1.elim
  | some env' =>
    rw [hb] at p1
    exact m1.bind r hb fun σ' m' => p1 F1 ρ1 H1 σ' Sx.refl m'
theorem asg_e {g : G} {e : E} (he : e.esc = true) {D : Ends} {σ : L2.St} {H : Hp} (q : RdS C W (.asg g e) D σ H) : tAsg (RdE C W e) (tgG C.K g) D σ H := rdX he (asg_t q)
theorem par_t2 {i j : Nat} {as : Es} {D : Ends} {σ : L2.St} {H : Hp} (q : RdS C W (.par [i, j] as) D σ H) : tPar i j (RdL C W as) D σ H := by
  obtain ⟨F0, ρ0, H0, F, ρ, env, st, m, p⟩ := q
  simp only [evS] at p
  refine ⟨F, ρ, env, st, m.envk, m.sto, PostS.lift m p fun x st1 F1 ρ1 H1 e1 m1 p1 vs r => ?_⟩
  match x, r, p1 with
  | [], r, p1 => exact p1.elim
  | [x], r, p1 =>
    simp only [putAll] at p1
    split at p1
    · rename_i env' hh
      split at hh <;> cases hh
    · exact p1.elim
  | [x, y], r, p1 =>
    simp only [putAll] at p1
    split at p1
    · rename_i env' hh
      split at hh
      · rename_i h1
        split at hh
        · rename_i h2
          cases hh
          cases r with
          | cons a r =>
            cases r with
            | cons b r =>
              cases r
              exact ⟨_, _, rfl, p1 F1 ρ1 H1 _ Sx.refl ((m1.put h1 a).put h2 b)⟩
        · cases hh
      · cases hh
    · exact p1.elim
  | _ :: _ :: _ :: _, r, p1 =>
    simp only [putAll] at p1
    split at p1
    · rename_i env' hh
      split at hh
      · split at hh <;> cases hh
      · cases hh
    · exact p1.elim
theorem par_t3 {i j k : Nat} {as : Es} {D : Ends} {σ : L2.St} {H : Hp} (q : RdS C W (.par [i, j, k] as) D σ H) : tPar3 i j k (RdL C W as) D σ H := by
  obtain ⟨F0, ρ0, H0, F, ρ, env, st, m, p⟩ := q
  simp only [evS] at p
  refine ⟨F, ρ, env, st, m.envk, m.sto, PostS.lift m p fun x st1 F1 ρ1 H1 e1 m1 p1 vs r => ?_⟩
  match x, r, p1 with
  | [], r, p1 => exact p1.elim
  | [x], r, p1 =>
    simp only [putAll] at p1
    split at p1
    · rename_i env' hh
      split at hh <;> cases hh
    · exact p1.elim
  | [x, y], r, p1 =>
    simp only [putAll] at p1
    split at p1
    · rename_i env' hh
      split at hh
      · split at hh <;> cases hh
      · cases hh
    · exact p1.elim
  | [x, y, z], r, p1 =>
    simp only [putAll] at p1
    split at p1
    · rename_i env' hh
      split at hh
      · rename_i h1
        split at hh
        · rename_i h2
          split at hh
          · rename_i h3
            cases hh
            cases r with
            | cons a r =>
              cases r with
              | cons b r =>
                cases r with
                | cons c r =>
                cases r
                exact ⟨_, _, _, rfl, p1 F1 ρ1 H1 _ Sx.refl (((m1.put h1 a).put h2 b).put h3 c)⟩
          · cases hh
        · cases hh
      · cases hh
    · exact p1.elim
  | _ :: _ :: _ :: _ :: _, r, p1 =>
    simp only [putAll] at p1
    split at p1
    · rename_i env' hh
      split at hh
      · split at hh
        · split at hh <;> cases hh
        · cases hh
      · cases hh
    · exact p1.elim
theorem setC_t {c i e : E} {D : Ends} {σ : L2.St} {H : Hp} (q : RdS C W (.setC c i e) D σ H) : tAsg (RdX C W e) (gSub (RdE C W c) (RdE C W i) rSetL) D σ H := by
  obtain ⟨F0, ρ0, H0, F, ρ, env, st, m, p⟩ := q
  simp only [evS] at p
  refine ⟨F, ρ, env, st, m.envk, m.sto, PostS.lift m p fun z st1 F1 ρ1 H1 e1 m1 p1 v r => ?_⟩
  refine ⟨F1, ρ1, env, st1, m1.envk, m1.sto, PostS.lift m1 p1 fun x st2 F2 ρ2 H2 e2 m2 p2 o ro => ?_⟩
  refine ⟨F2, ρ2, env, st2, m2.envk, m2.sto, PostS.lift m2 p2 fun y st3 F3 ρ3 H3 e3 m3 p3 u ru => ?_⟩
  have r := Rep.mono ((e2.trans e3).sx m1.sto.dis) _ _ r
  have ro := ((ro.vw m2.sto.dis).mono e3 m2.sto.dis)
  have ru := ru.vw m3.sto.dis
  split at p3
  · cases ru
    cases ro with
    | @cel a _ hk =>
    split at p3
    · rename_i xs hx
      split at p3
      · rename_i ys hy
        obtain ⟨vs, s1, rl⟩ := m3.sto.at_ _ a _ hk hx
        unfold setL at hy
        split at hy
        · rename_i hj
          cases hy
          obtain ⟨m4, sx⟩ := m3.cell hk (RepL.set _ rl r)
          refine ⟨a, vs, _, _, rfl, rfl, s1, ?_, p3 _ _ _ _ sx m4⟩
          unfold L2.ixN
          have hl := rl.len
          rw [if_pos hj.1, if_pos (by omega)]
        · cases hy
      · exact p3.elim
    · exact p3.elim
  · exact p3.elim
theorem ret_t {e : E} {D : Ends} {σ : L2.St} {H : Hp} (q : RdS C W (.ret e) D σ H) : tRet (RdX C W e) D σ H := by
  obtain ⟨F0, ρ0, H0, F, ρ, env, st, m, p⟩ := q
  simp only [evS] at p
  exact ⟨F, ρ, env, st, m.envk, m.sto, PostS.lift m p fun x st1 F1 ρ1 H1 e1 m1 p1 v r => p1 F1 ρ1 H1 v m1.ext m1.sto r⟩
theorem retN_t {D : Ends} {σ : L2.St} {H : Hp} (q : RdS C W (.ret .non) D σ H) : tRetN D σ H := by
  obtain ⟨F0, ρ0, H0, F, ρ, env, st, m, p⟩ := q
  exact p F ρ H .non m.ext m.sto .non
theorem ife_t {c : T} {a b : Ss} {D : Ends} {σ : L2.St} {H : Hp} (q : RdS C W (.ife c a b) D σ H) : tIfS (RdT C W c) (RdSs C W a) (RdSs C W b) D σ H := by
  obtain ⟨F0, ρ0, H0, F, ρ, env, st, m, p⟩ := q
  simp only [evS] at p
  refine ⟨F, ρ, env, st, m.envk, m.sto, PostS.lift m p fun x st1 F1 ρ1 H1 e1 m1 p1 => ?_⟩
  cases x with
  | true => rw [if_pos rfl]; exact ⟨F0, ρ0, H0, F1, ρ1, env, st1, m1, p1⟩
  | false => rw [if_neg Bool.false_ne_true]; exact ⟨F0, ρ0, H0, F1, ρ1, env, st1, m1, p1⟩
theorem expr_t {e : E} {D : Ends} {σ : L2.St} {H : Hp} (q : RdS C W (.expr e) D σ H) : tDrop (RdE C W e) D σ H := by
  obtain ⟨F0, ρ0, H0, F, ρ, env, st, m, p⟩ := q
  simp only [evS] at p
  exact ⟨F, ρ, env, st, m.envk, m.sto, PostS.lift m p fun x st1 F1 ρ1 H1 e1 m1 p1 v r => p1 F1 ρ1 H1 σ Sx.refl m1⟩
theorem cons_t {s : S} {r : Ss} {D : Ends} {σ : L2.St} {H : Hp} (q : RdSs C W (.cons s r) D σ H) : tSeq (RdS C W s) (RdSs C W r) D σ H := by
  obtain ⟨F0, ρ0, H0, F, ρ, env, st, m, p⟩ := q
  simp only [evSs] at p
  refine ⟨F0, ρ0, H0, F, ρ, env, st, m, ?_⟩
  cases e : evS C.Φ s env st with
  | ok f st' =>
    rw [e] at p
    cases f with
    | nx env' => exact fun F' ρ' H' σ' sx m' => ⟨F0, ρ0, H0, F', ρ', env', st', m', PostS.mono sx p⟩
    | rt v => exact p
    | bk env' => exact p
    | ct env' => exact p
  | exn x env' st' => rw [e] at p; exact p
  | bad => rw [e] at p; exact p
theorem kill_t {ks : List Nat} {r : Ss} {D : Ends} {σ : L2.St} {H : Hp} (q : RdSs C W (.cons (.kill ks) r) D σ H) : RdSs C W r D σ H := by
  obtain ⟨F0, ρ0, H0, F, ρ, env, st, m, p⟩ := q
  simp only [evSs, evS] at p
  exact ⟨F0, ρ0, H0, F, ρ, _, st, m.kill, p⟩
theorem for_J {g : G} {b : Ss} {ks : List Nat} {D : Ends} {σ : L2.St} {J : It} {its : List PV} {F0 F1 : Addr → Prop} {ρ0 ρ1 : List Addr} {H0 H1 : Hp} {env : En} {st1 : Sto} (m1 : Mid C.K F0 ρ0 H0 F1 ρ1 H1 env σ st1)
    (p1 : PostS C.K W F0 ρ0 H0 F1 ρ1 H1 D (forL (bindS g (evSs C.Φ b)) ks its env st1)) (hJ : ItOk C.K true F1 ρ1 H1 J its) : tFor (fun _ _ R => R J H1) (tgG C.K g) (RdSs C W b) D σ H1 := by
  obtain ⟨hlen, gd, g0, _, gE, goes, stops, ylds⟩ := hJ
  have gE := gE rfl
  refine ⟨fun i n σ' H' => ∃ F' ρ' env' st', n = its.length - i ∧ i ≤ its.length ∧ Sx F1 ρ1 H1 F' ρ' H' ∧ Mid C.K F0 ρ0 H0 F' ρ' H' env' σ' st' ∧
    PostS C.K W F0 ρ0 H0 F' ρ' H' D (forL (bindS g (evSs C.Φ b)) ks (its.drop i) env' st'), ⟨_, F1, ρ1, env, st1, rfl, Nat.zero_le _, Sx.refl, m1, p1⟩, ?_⟩
  rintro i n σ' H' ⟨F', ρ', env', st', hn, hi, sx, m', hp⟩
  rcases Nat.lt_or_ge i its.length with hlt | hge
  · refine .inr ⟨goes i H' hlt (gE _ _ _ sx), fun σ'' H'' => ∃ m', m' < n ∧ ∃ F' ρ' env' st', m' = its.length - (i + 1) ∧ i + 1 ≤ its.length ∧ Sx F1 ρ1 H1 F' ρ' H'' ∧ Mid C.K F0 ρ0 H0 F' ρ' H'' env' σ'' st' ∧
      PostS C.K W F0 ρ0 H0 F' ρ' H'' D (forL (bindS g (evSs C.Φ b)) ks (its.drop (i + 1)) env' st'), fun _ _ h => h, fun x H2 y => ?_⟩
    obtain ⟨pv, F2, hg, e2, s2, rx⟩ := ylds i F' ρ' H' x H2 st' hlt sx m'.sto (gE _ _ _ sx) y
    have m2 := m'.mono e2 s2
    have sx2 := sx.trans (e2.sx m'.sto.dis)
    rw [drop_cons hg] at hp
    have hp := PostS.mono (e2.sx m'.sto.dis) hp
    cases hb : bindG g pv env' with
    | none => simp only [forL, bindS, hb] at hp; exact hp.elim
    | some env1 =>
      refine m2.bind rx hb fun σ3 m3 => ⟨F0, ρ0, H0, F2, ρ', env1, st', m3, ?_⟩
      simp only [forL, bindS, hb] at hp
      cases e : evSs C.Φ b env1 st' with
      | ok f st4 =>
        rw [e] at hp
        cases f with
        | nx env4 => exact fun F5 ρ5 H5 σ5 s5 m5 => ⟨its.length - (i + 1), by omega, F5, ρ5, _, st4, rfl, hlt, sx2.trans s5, m5.kill, PostS.mono s5 hp⟩
        | ct env4 => exact fun F5 ρ5 H5 σ5 s5 m5 => ⟨its.length - (i + 1), by omega, F5, ρ5, _, st4, rfl, hlt, sx2.trans s5, m5.kill, PostS.mono s5 hp⟩
        | bk env4 => exact fun F5 ρ5 H5 σ5 s5 m5 => hp F5 ρ5 H5 σ5 s5 m5.kill
        | rt v => exact hp
      | exn x env4 st4 => rw [e] at hp; exact hp
      | bad => rw [e] at hp; exact hp
  · have hi : i = its.length := by omega
    subst hi
    rw [List.drop_length] at hp
    exact .inl ⟨stops H' (gE _ _ _ sx), hp F' ρ' H' σ' Sx.refl m'⟩
theorem for_t {g : G} {it : I} {b : Ss} {ks : List Nat} {D : Ends} {σ : L2.St} {H : Hp} (q : RdS C W (.for g it b ks) D σ H) : tFor (RdI C W true it) (tgG C.K g) (RdSs C W b) D σ H := by
  obtain ⟨F0, ρ0, H0, F, ρ, env, st, m, p⟩ := q
  simp only [evS] at p
  exact ⟨F, ρ, env, st, m.envk, m.sto, PostS.lift m p fun its st1 F1 ρ1 H1 e1 m1 p1 J hJ => for_J m1 p1 hJ⟩
/-! locks -/
def lk0 (H0 : Hp) (a : Addr) (od : Obj) (ks : List (List L2.Key × V)) : Hp := fun b => if b = a then (match H0 a with | none => none | some _ => some (.frz od (.dT ks))) else H0 b
theorem lk0_ne {H0 : Hp} {a b : Addr} {od : Obj} {ks : List (List L2.Key × V)} (n : b ≠ a) : lk0 H0 a od ks b = H0 b := if_neg n
theorem lk0_none {H0 : Hp} {a b : Addr} {od : Obj} {ks : List (List L2.Key × V)} : lk0 H0 a od ks b = none ↔ H0 b = none := by
  unfold lk0
  split
  · rename_i h
    subst h
    cases H0 b <;> simp
  · rfl
theorem lk0_same {H0 : Hp} {a : Addr} {od : Obj} {ks : List (List L2.Key × V)} {o : HO} (h : lk0 H0 a od ks a = some o) : o = .frz od (.dT ks) := by
  unfold lk0 at h
  rw [if_pos rfl] at h
  cases e : H0 a <;> rw [e] at h <;> cases h
  rfl
theorem Mid.lock {K : PySem.W.Frag} {F0 F : Addr → Prop} {ρ0 ρ : List Addr} {H0 H : Hp} {env : En} {σ : L2.St} {st : Sto} {a : Addr} {od : Obj} {ks : List (List L2.Key × V)} (m : Mid K F0 ρ0 H0 F ρ H env σ st) (fa : F a) (ha : H a = some (.dT ks)) :
    Mid K F0 ρ0 (lk0 H0 a od ks) F ρ (upd H a (.frz od (.dT ks))) env σ st := by
  refine ⟨⟨m.ext.sub, fun b f => ?_, fun b o h n => ?_, fun b h => ?_, m.ext.cel, fun b h => (m.ext.celn b h).imp id lk0_none.mpr⟩, m.envk.agr (agr_in ha) fa, fun i p b h1 h2 => lk0_none.mpr (m.new i p b h1 h2), m.sto.agr (agr_in ha) fa⟩
  · rcases m.ext.new b f with z | z | ⟨z, vs, e⟩
    · exact .inl z
    · exact .inr (.inl (lk0_none.mpr z))
    · have hb : b ≠ a := fun q => by
        subst q
        have := m.ext.keep b _ e z
        rw [ha] at this
        cases this
      exact .inr (.inr ⟨z, vs, by rw [lk0_ne hb]; exact e⟩)
  · by_cases hb : b = a
    · subst hb
      rw [lk0_same h]
      exact upd_same
    · rw [lk0_ne hb] at h
      rw [upd_ne hb]
      exact m.ext.keep b o h n
  · by_cases hb : b = a
    · subst hb
      rw [upd_same] at h
      cases h
    · rw [upd_ne hb] at h
      exact lk0_none.mpr (m.ext.track b h)
theorem Mid.unlock {K : PySem.W.Frag} {F0 F : Addr → Prop} {ρ0 ρ : List Addr} {H0 H : Hp} {env : En} {σ : L2.St} {st : Sto} {a : Addr} {od : Obj} {ks : List (List L2.Key × V)} (m : Mid K F0 ρ0 (lk0 H0 a od ks) F ρ H env σ st) (fa : F a) (ha : H a = some (.frz od (.dT ks)))
    (h0 : ∀ o, H0 a = some o → a ∉ ρ0 → o = .dT ks) : Mid K F0 ρ0 H0 F ρ (upd H a (.dT ks)) env σ st := by
  refine ⟨⟨m.ext.sub, fun b f => ?_, fun b o h n => ?_, fun b h => ?_, m.ext.cel, fun b h => (m.ext.celn b h).imp id lk0_none.mp⟩, m.envk.agr (agr_out ha) fa, fun i p b h1 h2 => lk0_none.mp (m.new i p b h1 h2), m.sto.agr (agr_out ha) fa⟩
  · rcases m.ext.new b f with z | z | ⟨z, vs, e⟩
    · exact .inl z
    · exact .inr (.inl (lk0_none.mp z))
    · have hb : b ≠ a := fun q => by
        subst q
        cases lk0_same e
      exact .inr (.inr ⟨z, vs, by rw [lk0_ne hb] at e; exact e⟩)
  · by_cases hb : b = a
    · subst hb
      rw [h0 o h n]
      exact upd_same
    · rw [upd_ne hb]
      exact m.ext.keep b o (by rw [lk0_ne hb]; exact h) n
  · by_cases hb : b = a
    · subst hb
      rw [upd_same] at h
      cases h
    · rw [upd_ne hb] at h
      exact lk0_none.mp (m.ext.track b h)
theorem forD_t {i : Nat} {g : G} {b : Ss} {ks : List Nat} {D : Ends} {σ : L2.St} {H : Hp} (sz : ∀ a ks, Rd H a (.dT ks) → ks.length ≤ sizeLine) (q : RdS C W (.forD i g b ks) D σ H) :
    tLock (tFor (iKeys (tVar i)) (tgG C.K g) (RdSs C W b)) D σ H ∨ tFor (iKeys (tVar i)) (tgG C.K g) (RdSs C W b) D σ H := by
  obtain ⟨F0, ρ0, H0, F, ρ, env, st, m, p⟩ := q
  simp only [evS] at p
  cases hl : look env i with
  | no => rw [hl] at p; exact p.elim
  | own _ => rw [hl] at p; exact p.elim
  | val y =>
    rw [hl] at p
    cases y <;> try exact p.elim
    rename_i kvs
    simp only at p
    obtain ⟨v, hs, r⟩ := m.envk.val i _ hl
    cases r with
    | @dct a _ f s o =>
      have hlen : kvs.length ≤ sizeLine := by have := sz a _ s; rwa [List.length_map] at this
      have nr : a ∉ ρ := fun z => m.sto.dis a z f
      cases e : forL (bindS g (evSs C.Φ b)) ks (kvs.map (·.1)) env st with
      | exn x env' st' => rw [e] at p; exact p.elim
      | bad => rw [e] at p; exact p.elim
      | ok fl st' =>
        rw [e] at p
        cases fl with
        | rt v => exact p.elim
        | bk env' => exact p.elim
        | ct env' => exact p.elim
        | nx env' =>
          rcases s with s | ⟨od, s⟩
          · left
            refine ⟨a, _, s, trivial, fun od => ⟨.ref a, hs, a, od, rfl, .inr ⟨_, upd_same, ?_⟩⟩⟩
            refine for_J (ks := ks) (m.lock f s) ?_ (itOk_keys f nr upd_same o hlen)
            rw [e]
            intro F' ρ' H' σ' sx m'
            have hz : H' a = some (.frz od (.dT (kvs.map fD))) := sx.keep a _ f upd_same
            refine ⟨hz, p F' ρ' (upd H' a (.dT (kvs.map fD))) σ' ⟨sx.sub, fun c u fc hc => ?_, sx.cel⟩ (m'.unlock (sx.sub a f) hz fun u hu nu => ?_)⟩
            · by_cases hb : c = a
              · subst hb
                rw [s] at hc
                cases hc
                exact upd_same
              · rw [upd_ne hb]
                exact sx.keep c u fc (by rw [upd_ne hb]; exact hc)
            · have := m.ext.keep a u hu nu
              rw [s] at this
              exact (Option.some.inj this).symm
          · right
            exact ⟨.ref a, hs, a, od, rfl, .inr ⟨_, s, for_J (ks := ks) m (by rw [e]; exact p) (itOk_keys f nr s o hlen)⟩⟩
theorem whl_t {c : T} {b : Ss} {ks : List Nat} {D : Ends} {σ : L2.St} {H : Hp} (q : RdS C W (.whl c b ks) D σ H) : tWhile (RdT C W c) (RdSs C W b) D σ H := by
  obtain ⟨F0, ρ0, H0, F, ρ, env, st, m, p⟩ := q
  simp only [evS] at p
  refine ⟨fun n σ' H' => ∃ F' ρ' env' st', Mid C.K F0 ρ0 H0 F' ρ' H' env' σ' st' ∧ PostS C.K W F0 ρ0 H0 F' ρ' H' D (whlL (evT C.Φ c) (evSs C.Φ b) ks n env' st'), ⟨_, F, ρ, env, st, m, p⟩, ?_⟩
  rintro n σ' H' ⟨F', ρ', env', st', m', hp⟩
  cases n with
  | zero => exact hp.elim
  | succ n =>
    simp only [whlL] at hp
    refine ⟨F', ρ', env', st', m'.envk, m'.sto, PostS.lift m' hp fun x st1 F1 ρ1 H1 e1 m1 p1 => ?_⟩
    cases x with
    | false => rw [if_neg Bool.false_ne_true]; exact p1 F1 ρ1 H1 σ' Sx.refl m1
    | true =>
      rw [if_pos rfl]
      refine ⟨fun σ'' H'' => ∃ m', m' < n + 1 ∧ ∃ F' ρ' env' st', Mid C.K F0 ρ0 H0 F' ρ' H'' env' σ'' st' ∧ PostS C.K W F0 ρ0 H0 F' ρ' H'' D (whlL (evT C.Φ c) (evSs C.Φ b) ks m' env' st'), fun _ _ h => h, F0, ρ0, H0, F1, ρ1, env', st1, m1, ?_⟩
      simp only at p1
      cases e : evSs C.Φ b env' st1 with
      | ok f st4 =>
        rw [e] at p1
        cases f with
        | nx env4 => exact fun F5 ρ5 H5 σ5 s5 m5 => ⟨n, Nat.lt_succ_self _, F5, ρ5, _, st4, m5.kill, PostS.mono s5 p1⟩
        | ct env4 => exact fun F5 ρ5 H5 σ5 s5 m5 => ⟨n, Nat.lt_succ_self _, F5, ρ5, _, st4, m5.kill, PostS.mono s5 p1⟩
        | bk env4 => exact fun F5 ρ5 H5 σ5 s5 m5 => p1 F5 ρ5 H5 σ5 s5 m5.kill
        | rt v => exact p1
      | exn x env4 st4 => rw [e] at p1; exact p1
      | bad => rw [e] at p1; exact p1
/-! ### owned lists -/
theorem asgO_d {i : Nat} {e : E} (hk : e.kind = .fd) {D : Ends} {σ : L2.St} {H : Hp} (q : RdS C W (.asgO i e) D σ H) : tAsg (RdE C W e) (gName i) D σ H := by
  obtain ⟨F0, ρ0, H0, F, ρ, env, st, m, p⟩ := q
  simp only [evS] at p
  refine ⟨F, ρ, env, st, m.envk, m.sto, PostS.lift m p fun x st1 F1 ρ1 H1 e1 m1 p1 v r => ?_⟩
  rw [hk] at r
  obtain ⟨a, kvs, e1', e2', r1⟩ := id r
  subst e2'
  simp only at p1
  split at p1
  · rename_i hi
    exact p1 F1 ρ1 H1 _ Sx.refl (m.putOd m1 hi r)
  · exact p1.elim
theorem putD_t {x : Nat} {as : Es} {e : E} (hl1 : as.len ≤ 1000) {D : Ends} {σ : L2.St} {H : Hp} (q : RdS C W (.putD x as e) D σ H) : tAsg (RdX C W e) (gSub (tVar x) (tTup (RdL C W as)) rSetD) D σ H := by
  obtain ⟨F0, ρ0, H0, F, ρ, env, st, m, p⟩ := q
  simp only [evS] at p
  have ll := lim_line
  split at p
  · rename_i kvs hl
    refine ⟨F, ρ, env, st, m.envk, m.sto, PostS.lift m p fun z st1 F1 ρ1 H1 e1 m1 p1 v r => ?_⟩
    obtain ⟨a, hs, _, _, _⟩ := m1.envk.own x _ hl
    refine ⟨.ref a, hs, ?_⟩
    refine ⟨F1, ρ1, env, st1, m1.envk, m1.sto, ?_⟩
    unfold Pv.lift at p1
    cases ex : evEs C.Φ as env st1 with
    | exn y st2 => rw [ex] at p1; exact fun c d H' F' ρ' e' s r => p1 c d F' ρ' H' σ (m1.mono e' s) r
    | bad => rw [ex] at p1; exact p1.elim
    | ok xs st2 =>
    have hxs := evEs_len as env st1 st2 xs ex
    rw [ex] at p1
    intro F2 ρ2 H2 x2 s2 vs rs
    have m2 := m1.mono x2 s2
    have p2 := PostS.mono (x2.sx m1.sto.dis) p1
    simp only at p2
    split at p2
    · rename_i hc
      obtain ⟨hk, hsc, hn⟩ := hc
      obtain ⟨ns, hns⟩ := Option.isSome_iff_exists.mp hk
      have evs : vs = ns.map V.int := ints_rep rs hns
      have ekv : ((ns.map Sum.inl : List L2.Key).map kV) = ns.map V.int := by rw [List.map_map]; rfl
      have ekd : keyD (.tup xs) = ns := by unfold keyD; rw [show keyP (.tup xs) = intsOf xs from rfl, hns]; rfl
      have r3 : Rep C.K F1 ρ1 H1 v z := r
      have ez : v = scV z := by
        clear r p1 p2 p ex
        cases z <;> first | (cases r3; rfl) | exact absurd hsc Bool.false_ne_true
      have hz : xs.length ≤ sizeLine := small1000' (by rw [hxs]; exact hl1)
      refine ⟨by rw [rs.len]; exact hz, fun t ht => ?_⟩
      have mt : Mid C.K F0 ρ0 H0 F2 ρ2 (upd H2 t (.tup vs)) env σ st2 := m2.mono (Ext.lay ht) (m2.sto.lay ht)
      obtain ⟨a', hs', _, _, hb', hok'⟩ := mt.envk.own x _ hl
      rw [hs] at hs'
      cases hs'
      obtain ⟨m3, sx⟩ := mt.ownwD hl hs (dOk_put (k := .tup xs) (v := z) hok' hk hsc)
      unfold rSetD
      refine ⟨a, _, rfl, DPut.t (k := (ns.map Sum.inl : List L2.Key)) hb' (by rw [ekv, ← evs]; exact upd_same) (by rw [List.length_map]; omega), ?_⟩
      have ef := fD_put kvs (.tup xs) z
      rw [ekd, ← ez] at ef
      rw [← ef]
      exact p2 F2 ρ2 _ σ (((Ext.lay ht).sx m2.sto.dis).trans sx) m3
    · exact p2.elim
  · exact p.elim
/-! ### parallel stores that may own -/
def RdP (C : Cq) (W : WX) (o : Bool) (e : E) : TE := if o then RdE C W e else RdX C W e
def kdP (o : Bool) (e : E) : Kd := if o then e.kind else .pl
theorem rdP_of {o : Bool} {e : E} {F : Addr → Prop} {ρ : List Addr} {H : Hp} {env : En} {σ : L2.St} {st : Sto} {Q : VK} (hE : EnvOk C.K F ρ H env σ) (hS : StoOk C.K F ρ H st) (p : PostG C.K W F ρ H σ (GV C.K (kdP o e) H Q) (evE C.Φ e env st)) : RdP C W o e σ H Q := by
  cases o with
  | true => exact ⟨F, ρ, env, st, hE, hS, p⟩
  | false => exact ⟨F, ρ, env, st, hE, hS, p⟩
theorem lift_bnd {α β : Type} (m : M α) (f : α → M β) (env : En) (st : Sto) (k : β → Sto → SOut) : lift (M.bnd m f) env st k = lift m env st fun a st' => lift (f a) env st' k := by
  unfold lift M.bnd
  cases m st <;> rfl
theorem lift_ret {α : Type} (a : α) (env : En) (st : Sto) (k : α → Sto → SOut) : lift (M.ret a) env st k = k a st := rfl
theorem putO1_ok {F0 F F1 : Addr → Prop} {ρ0 ρ ρ1 : List Addr} {H0 H H1 : Hp} {env env' : En} {σ : L2.St} {st st1 : Sto} {i : Nat} {o : Bool} {e : E} {p : PV} {v : V} (m : Mid C.K F0 ρ0 H0 F ρ H env σ st) (m1 : Mid C.K F0 ρ0 H0 F1 ρ1 H1 env σ st1) (hk : o = true → e.kind = .fr ∨ e.kind = .fd)
    (r : Res C.K H F1 ρ1 H1 v p (kdP o e)) (ho : putO1 env i o p = some env') : Mid C.K F0 ρ0 H0 F1 ρ1 H1 env' (σ.set i (some v)) st1 := by
  unfold putO1 at ho
  split at ho
  · rename_i hi
    cases o with
    | false =>
      cases ho
      exact m1.put hi r
    | true =>
      have r : Res C.K H F1 ρ1 H1 v p e.kind := r
      rcases hk rfl with h | h
      · rw [h] at r
        obtain ⟨_, _, ps, _, ep, _⟩ := id r
        subst ep
        cases ho
        exact m.putO m1 hi r
      · rw [h] at r
        obtain ⟨_, kvs, _, ep, _⟩ := id r
        subst ep
        cases ho
        exact m.putOd m1 hi r
  · cases ho
theorem parO_t2 {i j : Nat} {oi oj : Bool} {ea eb : E} (ka : oi = true → ea.kind = .fr ∨ ea.kind = .fd) (kb : oj = true → eb.kind = .fr ∨ eb.kind = .fd) {D : Ends} {σ : L2.St} {H : Hp} (q : RdS C W (.parO [(i, oi), (j, oj)] (.cons ea (.cons eb .nil))) D σ H) :
    tPar i j (tCons (RdP C W oi ea) (tCons (RdP C W oj eb) tNil)) D σ H := by
  obtain ⟨F0, ρ0, H0, F, ρ, env, st, m, p⟩ := q
  simp only [evS, evEs, lift_bnd, lift_ret] at p
  refine rdP_of m.envk m.sto (PostS.lift m p fun x st1 F1 ρ1 H1 e1 m1 p1 v1 r1 => ?_)
  refine rdP_of m1.envk m1.sto (PostS.lift m1 p1 fun y st2 F2 ρ2 H2 e2 m2 p2 v2 r2 => ?_)
  simp only [putAllO] at p2
  cases h1 : putO1 env i oi x with
  | none => rw [h1] at p2; exact p2.elim
  | some env1 =>
    rw [h1] at p2
    simp only [Option.bind_some] at p2
    cases h2 : putO1 env1 j oj y with
    | none => rw [h2] at p2; exact p2.elim
    | some env2 =>
      rw [h2] at p2
      have mA := putO1_ok m m1 ka r1 h1
      have mB := putO1_ok mA (mA.mono e2 m2.sto) kb r2 h2
      exact ⟨v1, v2, rfl, p2 F2 ρ2 H2 _ Sx.refl mB⟩
theorem parO_t3 {i j k : Nat} {oi oj ok : Bool} {ea eb ec : E} (ka : oi = true → ea.kind = .fr ∨ ea.kind = .fd) (kb : oj = true → eb.kind = .fr ∨ eb.kind = .fd) (kc : ok = true → ec.kind = .fr ∨ ec.kind = .fd) {D : Ends} {σ : L2.St} {H : Hp} (q : RdS C W (.parO [(i, oi), (j, oj), (k, ok)] (.cons ea (.cons eb (.cons ec .nil)))) D σ H) :
    tPar3 i j k (tCons (RdP C W oi ea) (tCons (RdP C W oj eb) (tCons (RdP C W ok ec) tNil))) D σ H := by
  obtain ⟨F0, ρ0, H0, F, ρ, env, st, m, p⟩ := q
  simp only [evS, evEs, lift_bnd, lift_ret] at p
  refine rdP_of m.envk m.sto (PostS.lift m p fun x st1 F1 ρ1 H1 e1 m1 p1 v1 r1 => ?_)
  refine rdP_of m1.envk m1.sto (PostS.lift m1 p1 fun y st2 F2 ρ2 H2 e2 m2 p2 v2 r2 => ?_)
  refine rdP_of m2.envk m2.sto (PostS.lift m2 p2 fun z st3 F3 ρ3 H3 e3 m3 p3 v3 r3 => ?_)
  simp only [putAllO] at p3
  cases h1 : putO1 env i oi x with
  | none => rw [h1] at p3; exact p3.elim
  | some env1 =>
    rw [h1] at p3
    simp only [Option.bind_some] at p3
    cases h2 : putO1 env1 j oj y with
    | none => rw [h2] at p3; exact p3.elim
    | some env2 =>
      rw [h2] at p3
      simp only [Option.bind_some] at p3
      cases h3 : putO1 env2 k ok z with
      | none => rw [h3] at p3; exact p3.elim
      | some env3 =>
        rw [h3] at p3
        have mA := putO1_ok m m1 ka r1 h1
        have mB := putO1_ok mA (mA.mono e2 m2.sto) kb r2 h2
        have mC := putO1_ok mB (mB.mono e3 m3.sto) kc r3 h3
        exact ⟨v1, v2, v3, rfl, p3 F3 ρ3 H3 _ Sx.refl mC⟩
theorem small3 {α : Type} {xs : List α} (h : xs.length ≤ 3) : xs.length ≤ sizeLine := small1000' (by omega)
theorem unp_t2 {i j : Nat} {oi oj : Bool} {ea eb : E} (ka : oi = true → ea.kind = .fr ∨ ea.kind = .fd) (kb : oj = true → eb.kind = .fr ∨ eb.kind = .fd) {D : Ends} {σ : L2.St} {H : Hp} (q : RdS C W (.parO [(i, oi), (j, oj)] (.cons ea (.cons eb .nil))) D σ H) :
    tAsg (tTup (tCons (RdP C W oi ea) (tCons (RdP C W oj eb) tNil))) (tgG C.K (.tup (.cons (.name i) (.cons (.name j) .nil)))) D σ H := by
  obtain ⟨F0, ρ0, H0, F, ρ, env, st, m, p⟩ := q
  simp only [evS, evEs, lift_bnd, lift_ret] at p
  refine rdP_of m.envk m.sto (PostS.lift m p fun x st1 F1 ρ1 H1 e1 m1 p1 v1 r1 => ?_)
  refine rdP_of m1.envk m1.sto (PostS.lift m1 p1 fun y st2 F2 ρ2 H2 e2 m2 p2 v2 r2 => ?_)
  simp only [putAllO] at p2
  cases h1 : putO1 env i oi x with
  | none => rw [h1] at p2; exact p2.elim
  | some env1 =>
    rw [h1] at p2
    simp only [Option.bind_some] at p2
    cases h2 : putO1 env1 j oj y with
    | none => rw [h2] at p2; exact p2.elim
    | some env2 =>
      rw [h2] at p2
      have mA := putO1_ok m m1 ka r1 h1
      have mB := putO1_ok mA (mA.mono e2 m2.sto) kb r2 h2
      exact ⟨small3 (by simp), fun t ht => ⟨t, [v1, v2], rfl, .inl (.inl upd_same), rfl, v1, [v2], rfl, v2, [], rfl, rfl, p2 F2 ρ2 _ _ ((Ext.lay ht).sx m2.sto.dis) (mB.mono (Ext.lay ht) (mB.sto.lay ht))⟩⟩
theorem unp_t3 {i j k : Nat} {oi oj ok : Bool} {ea eb ec : E} (ka : oi = true → ea.kind = .fr ∨ ea.kind = .fd) (kb : oj = true → eb.kind = .fr ∨ eb.kind = .fd) (kc : ok = true → ec.kind = .fr ∨ ec.kind = .fd) {D : Ends} {σ : L2.St} {H : Hp} (q : RdS C W (.parO [(i, oi), (j, oj), (k, ok)] (.cons ea (.cons eb (.cons ec .nil)))) D σ H) :
    tAsg (tTup (tCons (RdP C W oi ea) (tCons (RdP C W oj eb) (tCons (RdP C W ok ec) tNil)))) (tgG C.K (.tup (.cons (.name i) (.cons (.name j) (.cons (.name k) .nil))))) D σ H := by
  obtain ⟨F0, ρ0, H0, F, ρ, env, st, m, p⟩ := q
  simp only [evS, evEs, lift_bnd, lift_ret] at p
  refine rdP_of m.envk m.sto (PostS.lift m p fun x st1 F1 ρ1 H1 e1 m1 p1 v1 r1 => ?_)
  refine rdP_of m1.envk m1.sto (PostS.lift m1 p1 fun y st2 F2 ρ2 H2 e2 m2 p2 v2 r2 => ?_)
  refine rdP_of m2.envk m2.sto (PostS.lift m2 p2 fun z st3 F3 ρ3 H3 e3 m3 p3 v3 r3 => ?_)
  simp only [putAllO] at p3
  cases h1 : putO1 env i oi x with
  | none => rw [h1] at p3; exact p3.elim
  | some env1 =>
    rw [h1] at p3
    simp only [Option.bind_some] at p3
    cases h2 : putO1 env1 j oj y with
    | none => rw [h2] at p3; exact p3.elim
    | some env2 =>
      rw [h2] at p3
      simp only [Option.bind_some] at p3
      cases h3 : putO1 env2 k ok z with
      | none => rw [h3] at p3; exact p3.elim
      | some env3 =>
        rw [h3] at p3
        have mA := putO1_ok m m1 ka r1 h1
        have mB := putO1_ok mA (mA.mono e2 m2.sto) kb r2 h2
        have mC := putO1_ok mB (mB.mono e3 m3.sto) kc r3 h3
        exact ⟨small3 (by simp), fun t ht => ⟨t, [v1, v2, v3], rfl, .inl (.inl upd_same), rfl, v1, [v2, v3], rfl, v2, [v3], rfl, v3, [], rfl, rfl, p3 F3 ρ3 _ _ ((Ext.lay ht).sx m3.sto.dis) (mC.mono (Ext.lay ht) (mC.sto.lay ht))⟩⟩
theorem eraseIdx_repL {K : PySem.W.Frag} {F : Addr → Prop} {ρ : List Addr} {H : Hp} {vs : List V} {ps : List PV} (r : RepL K F ρ H vs ps) (n : Nat) : RepL K F ρ H (vs.eraseIdx n) (ps.eraseIdx n) := by
  rw [List.eraseIdx_eq_take_drop_succ, List.eraseIdx_eq_take_drop_succ]
  exact RepL.app (r.take n) (r.drop (n + 1))
theorem appPop_t {f x : Nat} {e : E} {D : Ends} {σ : L2.St} {H : Hp} (q : RdS C W (.appPop f x e) D σ H) :
    tDrop (tBM C.K "list" rAppend (tVar f) (tCons (tBM C.K "list" rPopAt (tVar x) (tCons (RdX C W e) tNil)) tNil)) D σ H := by
  obtain ⟨F0, ρ0, H0, F, ρ, env, st, m, p⟩ := q
  simp only [evS] at p
  have ll := lim_line
  split at p
  · rename_i xs hx
    split at p
    · rename_i fs hf
      obtain ⟨af, hsf, nff, nrf, vf, hbf, rlf⟩ := m.envk.own f _ hf
      obtain ⟨ax, hsx, nfx, nrx, vx, hbx, rlx⟩ := m.envk.own x _ hx
      refine ⟨.ref af, hsf, .inl ⟨rfl, _, SqL.of hbf⟩, .ref ax, hsx, .inl ⟨rfl, _, SqL.of hbx⟩, F, ρ, env, st, m.envk, m.sto, PostS.lift m p fun z st1 F1 ρ1 H1 e1 m1 p1 v r => ?_⟩
      cases z <;> try exact p1.elim
      rename_i j
      cases (r : Rep C.K F1 ρ1 H1 v (.int j))
      simp only at p1
      split at p1
      · rename_i hc
        obtain ⟨j0, j1, hne, hz⟩ := hc
        split at p1
        · rename_i y hy
          obtain ⟨af', hsf', _, _, vf', hbf', rlf'⟩ := m1.envk.own f _ hf
          rw [hsf] at hsf'
          cases hsf'
          obtain ⟨ax', hsx', _, _, vx', hbx', rlx'⟩ := m1.envk.own x _ hx
          rw [hsx] at hsx'
          cases hsx'
          obtain ⟨w, hw, rw'⟩ := rlx'.get' hy
          have hlen := rlf'.len
          have hlx := rlx'.len
          obtain ⟨m2, sx2⟩ := m1.ownw hx hsx (eraseIdx_repL rlx' j.toNat)
          have hf2 : look (put env x (.own (.lst (xs.eraseIdx j.toNat)))) f = .own (.lst fs) := by rw [look_put_ne hne]; exact hf
          obtain ⟨af2, hsf2, _, _, vf2, hbf2, rlf2⟩ := m2.envk.own f _ hf2
          rw [hsf] at hsf2
          cases hsf2
          have hlen2 := rlf2.len
          have rw2 := Rep.mono sx2 _ _ rw'
          obtain ⟨m3, sx3⟩ := m2.ownw hf2 hsf (RepL.app rlf2 (.cons rw2 .nil))
          have hjl : j.toNat < vx'.length := (List.getElem?_eq_some_iff.mp hw).1
          refine ⟨ax, vx', j, j.toNat, w, rfl, rfl, hbx', by omega, by omega, ?_, hw, ?_⟩
          · unfold seqIndex?
            simp [show ¬ j < 0 by omega, j0, show j < (vx'.length : Int) by omega]
          · exact ⟨af, vf2, w, rfl, rfl, hbf2, by omega, p1 F1 ρ1 _ σ (sx2.trans sx3) m3⟩
        · exact p1.elim
      · exact p1.elim
    · exact p.elim
  · exact p.elim
def rTupOf (K : PySem.W.Frag) : List V → Hp → VK → Prop := fun xs H Q => ∃ p ys, xs = [.ref p] ∧ ((SqL K H p ys ∧ ∀ l, H l = none → Q (.ref l) (upd H l (.tup ys))) ∨ (SqT K H p ys ∧ Q (.ref p) H))
theorem pe_P {X : Cx} {x : Expr} {o : Bool} {e : E} (h : PE X x (RdE C W e)) (k : o = false → e.esc = true) : PE X x (RdP C W o e) := by
  cases o with
  | true => exact h
  | false => exact pe_X h (k rfl)
theorem putE_t {x : Nat} {c e : E} {D : Ends} {σ : L2.St} {H : Hp} (q : RdS C W (.putE x c e) D σ H) : tAsg (RdX C W e) (gSub (tVar x) (tCB (rTupOf C.K) (tCons (RdE C W c) tNil)) rSetD) D σ H := by
  obtain ⟨F0, ρ0, H0, F, ρ, env, st, m, p⟩ := q
  simp only [evS] at p
  have ll := lim_line
  split at p
  · rename_i kvs hl
    refine ⟨F, ρ, env, st, m.envk, m.sto, PostS.lift m p fun z st1 F1 ρ1 H1 e1 m1 p1 v r => ?_⟩
    obtain ⟨a, hs, _, _, _⟩ := m1.envk.own x _ hl
    refine ⟨.ref a, hs, ?_⟩
    refine ⟨F1, ρ1, env, st1, m1.envk, m1.sto, PostS.lift m1 p1 fun y st2 F2 ρ2 H2 x2 m2 p2 u ru => ?_⟩
    cases y <;> try exact p2.elim
    rename_i xs
    simp only at p2
    split at p2
    · rename_i hc
      obtain ⟨hk, hsc, hn⟩ := hc
      obtain ⟨ns, hns⟩ := Option.isSome_iff_exists.mp hk
      obtain ⟨la, vs, rfl, hnr, hsl, rl⟩ := ru.vw m2.sto.dis
      have evs : vs = ns.map V.int := ints_rep rl hns
      have ekv : ((ns.map Sum.inl : List L2.Key).map kV) = ns.map V.int := by rw [List.map_map]; rfl
      have ekd : keyD (.tup xs) = ns := by unfold keyD; rw [show keyP (.tup xs) = intsOf xs from rfl, hns]; rfl
      have r3 : Rep C.K F1 ρ1 H1 v z := r
      have ez : v = scV z := by
        clear r p1 p2 p
        cases z <;> first | (cases r3; rfl) | exact absurd hsc Bool.false_ne_true
      refine ⟨la, vs, rfl, .inl ⟨SqL.of hsl, fun t ht => ?_⟩⟩
      have mt : Mid C.K F0 ρ0 H0 F2 ρ2 (upd H2 t (.tup vs)) env σ st2 := m2.mono (Ext.lay ht) (m2.sto.lay ht)
      obtain ⟨a', hs', _, _, hb', hok'⟩ := mt.envk.own x _ hl
      rw [hs] at hs'
      cases hs'
      obtain ⟨m3, sx⟩ := mt.ownwD hl hs (dOk_put (k := .tup xs) (v := z) hok' hk hsc)
      unfold rSetD
      refine ⟨a, _, rfl, DPut.t (k := (ns.map Sum.inl : List L2.Key)) hb' (by rw [ekv, ← evs]; exact upd_same) (by rw [List.length_map]; omega), ?_⟩
      have ef := fD_put kvs (.tup xs) z
      rw [ekd, ← ez] at ef
      rw [← ef]
      exact p2 F2 ρ2 _ σ (((Ext.lay ht).sx m2.sto.dis).trans sx) m3
    · exact p2.elim
  · exact p.elim
theorem asgO_t {i : Nat} {e : E} (hk : e.kind = .fr) {D : Ends} {σ : L2.St} {H : Hp} (q : RdS C W (.asgO i e) D σ H) : tAsg (RdE C W e) (gName i) D σ H := by
  obtain ⟨F0, ρ0, H0, F, ρ, env, st, m, p⟩ := q
  simp only [evS] at p
  refine ⟨F, ρ, env, st, m.envk, m.sto, PostS.lift m p fun x st1 F1 ρ1 H1 e1 m1 p1 v r => ?_⟩
  rw [hk] at r
  obtain ⟨_, _, xs, _, ex, _⟩ := id r
  subst ex
  simp only at p1
  split at p1
  · rename_i hi
    exact p1 F1 ρ1 H1 _ Sx.refl (m.putO m1 hi r)
  · exact p1.elim
theorem frz_t {i : Nat} {r : Ss} {D : Ends} {σ : L2.St} {H : Hp} (q : RdSs C W (.cons (.frz i) r) D σ H) : RdSs C W r D σ H := by
  obtain ⟨F0, ρ0, H0, F, ρ, env, st, m, p⟩ := q
  simp only [evSs, evS] at p
  cases hl : look env i with
  | no => rw [hl] at p; exact p.elim
  | val _ => rw [hl] at p; exact p.elim
  | own q =>
    rw [hl] at p
    cases q <;> try exact p.elim
    · obtain ⟨F', sx, m'⟩ := m.frz hl
      exact ⟨F0, ρ0, H0, F', ρ, _, st, m', PostS.mono sx p⟩
    · obtain ⟨F', sx, m'⟩ := m.frzD hl
      exact ⟨F0, ρ0, H0, F', ρ, _, st, m', PostS.mono sx p⟩
theorem app_t {x : Nat} {e : E} {D : Ends} {σ : L2.St} {H : Hp} (q : RdS C W (.app x e) D σ H) : tDrop (tBM C.K "list" rAppend (tVar x) (tCons (RdX C W e) tNil)) D σ H := by
  obtain ⟨F0, ρ0, H0, F, ρ, env, st, m, p⟩ := q
  simp only [evS] at p
  have ll := lim_line
  split at p
  · rename_i xs hl
    obtain ⟨a, hs, nf, nr, vs, hb, rl⟩ := m.envk.own x _ hl
    refine ⟨.ref a, hs, .inl ⟨rfl, _, SqL.of hb⟩, F, ρ, env, st, m.envk, m.sto, PostS.lift m p fun z st1 F1 ρ1 H1 e1 m1 p1 v r => ?_⟩
    split at p1
    · rename_i hz
      obtain ⟨a', hs', _, _, vs', hb', rl'⟩ := m1.envk.own x _ hl
      rw [hs] at hs'
      cases hs'
      have hlen := rl'.len
      obtain ⟨m2, sx⟩ := m1.ownw hl hs (RepL.app rl' (.cons r .nil))
      exact ⟨a, vs', v, rfl, rfl, hb', by omega, p1 F1 ρ1 _ σ sx m2⟩
    · exact p1.elim
  · exact p.elim
theorem setO_t {x : Nat} {i e : E} {D : Ends} {σ : L2.St} {H : Hp} (q : RdS C W (.setO x i e) D σ H) : tAsg (RdX C W e) (gSub (tVar x) (RdE C W i) rSetL) D σ H := by
  obtain ⟨F0, ρ0, H0, F, ρ, env, st, m, p⟩ := q
  simp only [evS] at p
  split at p
  · rename_i xs hl
    refine ⟨F, ρ, env, st, m.envk, m.sto, PostS.lift m p fun z st1 F1 ρ1 H1 e1 m1 p1 v r => ?_⟩
    obtain ⟨a, hs, _, _, _⟩ := m1.envk.own x _ hl
    refine ⟨.ref a, hs, F1, ρ1, env, st1, m1.envk, m1.sto, PostS.lift m1 p1 fun y st2 F2 ρ2 H2 e2 m2 p2 u ru => ?_⟩
    have r := Rep.mono (e2.sx m1.sto.dis) _ _ r
    have ru := ru.vw m2.sto.dis
    cases y <;> try exact p2.elim
    cases ru
    simp only at p2
    split at p2
    · rename_i ys hy
      obtain ⟨a', hs', _, _, vs', hb', rl'⟩ := m2.envk.own x _ hl
      rw [hs] at hs'
      cases hs'
      unfold setN at hy
      have hlen := rl'.len
      split at hy
      · rename_i hj
        cases hy
        obtain ⟨m3, sx⟩ := m2.ownw hl hs (RepL.set _ rl' r)
        refine ⟨a, vs', _, _, rfl, rfl, hb', ?_, p2 _ _ _ _ sx m3⟩
        unfold L2.ixN
        rw [if_pos hj.1, if_pos (by omega)]
      · split at hy
        · rename_i hj
          cases hy
          obtain ⟨m3, sx⟩ := m2.ownw hl hs (RepL.set _ rl' r)
          refine ⟨a, vs', _, _, rfl, rfl, hb', ?_, p2 _ _ _ _ sx m3⟩
          unfold L2.ixN
          rw [if_neg (by omega), if_pos (by omega)]
          congr 1
          omega
        · cases hy
    · exact p2.elim
  · exact p.elim
theorem popO_t {i x : Nat} {D : Ends} {σ : L2.St} {H : Hp} (q : RdS C W (.popO i x) D σ H) : tAsg (tBM0 C.K "list" rPop (tVar x)) (gName i) D σ H := by
  obtain ⟨F0, ρ0, H0, F, ρ, env, st, m, p⟩ := q
  simp only [evS] at p
  split at p
  · rename_i xs hl
    obtain ⟨a, hs, nf, nr, vs, hb, rl⟩ := m.envk.own x _ hl
    refine ⟨.ref a, hs, .inl ⟨rfl, _, SqL.of hb⟩, ?_⟩
    split at p
    · rename_i y ys hp
      unfold popL at hp
      split at hp
      · rename_i z hz
        cases hp
        split at p
        · rename_i hi
          have hlen := rl.len
          obtain ⟨v, hv, rv⟩ := rl.get' hz
          obtain ⟨m1, sx⟩ := m.ownw hl hs (rl.take (xs.length - 1))
          refine ⟨a, vs, v, rfl, rfl, hb, by rw [hlen]; exact hv, ?_⟩
          rw [List.dropLast_eq_take, hlen]
          exact p F ρ _ _ sx (m1.put (by rw [put_len]; exact hi) (Rep.mono sx _ _ rv))
        · exact p.elim
      · cases hp
    · exact p.elim
  · exact p.elim
theorem extO_t {x : Nat} {e : E} {D : Ends} {σ : L2.St} {H : Hp} (q : RdS C W (.extO x e) D σ H) : tAug x (RdE C W e) rExt2 D σ H := by
  obtain ⟨F0, ρ0, H0, F, ρ, env, st, m, p⟩ := q
  simp only [evS] at p
  have ll := lim_line
  split at p
  · rename_i xs hl
    obtain ⟨a, hs, nf, nr, vs, hb, rl⟩ := m.envk.own x _ hl
    refine ⟨.ref a, hs, F, ρ, env, st, m.envk, m.sto, PostS.lift m p fun z st1 F1 ρ1 H1 e1 m1 p1 v r => ?_⟩
    cases z <;> try exact p1.elim
    rename_i ys
    simp only at p1
    split at p1
    · rename_i hz
      obtain ⟨a', hs', _, _, vs', hb', rl'⟩ := m1.envk.own x _ hl
      rw [hs] at hs'
      cases hs'
      obtain ⟨b, ws, rfl, _, hw, rw_⟩ := r.vw m1.sto.dis
      have hlen := rl'.len
      have hlen2 := rw_.len
      obtain ⟨m2, sx⟩ := m1.ownw hl hs (RepL.app rl' rw_)
      refine ⟨a, b, vs', ws, rfl, rfl, hb', hw, by omega, ?_⟩
      have he : σ.set x (some (V.ref a)) = σ := by
        refine List.ext_getElem? fun j => ?_
        by_cases hj : j = x
        · subst hj
          rw [List.getElem?_set_self (List.getElem?_eq_some_iff.mp hs).1, hs]
        · rw [List.getElem?_set_ne (Ne.symm hj)]
      show D.nx (σ.set x (some (V.ref a))) _
      rw [he]
      exact p1 F1 ρ1 _ σ sx m2
    · exact p1.elim
  · exact p.elim
end
end Pv

/-! P13: the machine's statements against the small ones. -/
namespace Pv
open PySem PySem.Spec PyProof.Rows L2
def isComp : Expr → Bool
  | .ListComp _ _ _ _ => true
  | .SetComp _ _ _ _ => true
  | .DictComp _ _ _ _ _ => true
  | _ => false
def eComp : E → Bool
  | .comp _ _ _ _ _ => true
  | .comp2 _ _ _ _ _ _ _ _ _ => true
  | _ => false
def isTup : Expr → Bool
  | .Tuple _ _ _ => true
  | _ => false
def fnK (sc : Scope) : Bool := match sc.kind with
  | .function => true
  | _ => false
def lcl (sc : Scope) (x : Str) : Bool := match sc.names.lookup x with
  | some .local => true
  | _ => false
/-- a comprehension that is stored where it is made -/
def swOk (sc : Scope) (x : Str) (py : Pos) : Expr → Bool
  | .ListComp _ _ scope cpos => fnK sc && lcl sc x && (py.line == cpos.line) && !(scope.names.any fun (n, k) => n == x && (k == .local || k == .cell))
  | _ => false
def swNames (sc : Scope) (ts : List Expr) : List Str := ts.filterMap fun
  | .Name id pos => if sc.names.lookup id == some .local && pos.line == (ts.head?.map (·.pos.line)).getD 0 then some id else none
  | _ => none
def noSwap (sc : Scope) (ts : List Expr) : Expr → Bool
  | .Tuple vs _ _ => !(ts.length == 2 || ts.length == 3) || (vs.length != ts.length) || ((swNames sc ts).length != ts.length) || vs.all (foldedForSure 8)
  | _ => true
def parOk (vs : List Expr) : Bool := !(vs.any fun | .Starred .. => true | _ => false) && !vs.all (foldedForSure 8) && !vs.all (constantsAlone 8)
def nmOf : Expr → Option (Str × Pos)
  | .Name x p => some (x, p)
  | _ => none
theorem nmOf_eq {e : Expr} {x : Str} {p : Pos} (h : nmOf e = some (x, p)) : e = .Name x p := by
  cases e <;> simp [nmOf] at h
  obtain ⟨rfl, rfl⟩ := h
  rfl
def mtPar2 (m : MC) (i j : Nat) (as : Es) (a b : Expr) : Option (Str × Pos) → Option (Str × Pos) → Bool
  | some (x, px), some (y, py) => decide (m.N[i]? = some x) && decide (m.N[j]? = some y) && decide (i ≠ j) && !(x == y) && lcl m.sc x && lcl m.sc y && fnK m.sc && (px.line == py.line) && parOk [a, b] && mtEs m as [a, b] && as.esc
  | _, _ => false
def mtPar3 (m : MC) (i j k : Nat) (as : Es) (a b c : Expr) : Option (Str × Pos) → Option (Str × Pos) → Option (Str × Pos) → Bool
  | some (x, px), some (y, py), some (z, pz) => decide (m.N[i]? = some x) && decide (m.N[j]? = some y) && decide (m.N[k]? = some z) && decide (i ≠ j) && decide (i ≠ k) && decide (j ≠ k) && !(x == y) && !(x == z) && !(y == z) && lcl m.sc x && lcl m.sc y && lcl m.sc z && fnK m.sc && (px.line == py.line) && (px.line == pz.line) && parOk [a, b, c] && mtEs m as [a, b, c] && as.esc
  | _, _, _ => false
def mtParL (m : MC) (as : Es) : List Nat → List Expr → List Expr → Bool
  | [i, j], [s, t], [a, b] => mtPar2 m i j as a b (nmOf s) (nmOf t)
  | [i, j, k], [s, t, u], [a, b, c] => mtPar3 m i j k as a b c (nmOf s) (nmOf t) (nmOf u)
  | _, _, _ => false
def mtPar (m : MC) (is : List Nat) (as : Es) : Expr → Expr → Bool
  | .Tuple ts _ _, .Tuple vs _ _ => mtParL m as is ts vs
  | _, _ => false
def okO (o : Bool) (e : E) : Bool := if o then decide (e.kind = .fr) || decide (e.kind = .fd) else e.esc
def mtParO2 (m : MC) (i j : Nat) (oi oj : Bool) (ea eb : E) (a b : Expr) : Option (Str × Pos) → Option (Str × Pos) → Bool
  | some (x, px), some (y, py) => decide (m.N[i]? = some x) && decide (m.N[j]? = some y) && decide (i ≠ j) && !(x == y) && lcl m.sc x && lcl m.sc y && fnK m.sc && (px.line == py.line) && parOk [a, b] && isPl a && isPl b && mtE m ea a && mtE m eb b && okO oi ea && okO oj eb
  | _, _ => false
def mtParO3 (m : MC) (i j k : Nat) (oi oj ok : Bool) (ea eb ec : E) (a b c : Expr) : Option (Str × Pos) → Option (Str × Pos) → Option (Str × Pos) → Bool
  | some (x, px), some (y, py), some (z, pz) => decide (m.N[i]? = some x) && decide (m.N[j]? = some y) && decide (m.N[k]? = some z) && decide (i ≠ j) && decide (i ≠ k) && decide (j ≠ k) && !(x == y) && !(x == z) && !(y == z) && lcl m.sc x && lcl m.sc y && lcl m.sc z && fnK m.sc && (px.line == py.line) && (px.line == pz.line) && parOk [a, b, c] && isPl a && isPl b && isPl c && mtE m ea a && mtE m eb b && mtE m ec c && okO oi ea && okO oj eb && okO ok ec
  | _, _, _ => false
def mtParOL (m : MC) : List (Nat × Bool) → Es → List Expr → List Expr → Bool
  | [(i, oi), (j, oj)], .cons ea (.cons eb .nil), [s, t], [a, b] => mtParO2 m i j oi oj ea eb a b (nmOf s) (nmOf t)
  | [(i, oi), (j, oj), (k, ok)], .cons ea (.cons eb (.cons ec .nil)), [s, t, u], [a, b, c] => mtParO3 m i j k oi oj ok ea eb ec a b c (nmOf s) (nmOf t) (nmOf u)
  | _, _, _, _ => false
def mtParO (m : MC) (fs : List (Nat × Bool)) (es : Es) : Expr → Expr → Bool
  | .Tuple ts _ _, .Tuple vs _ _ => mtParOL m fs es ts vs
  | _, _ => false
def mtUnpL (m : MC) (ts : List Expr) : List (Nat × Bool) → Es → List Expr → Bool
  | [(i, oi), (j, oj)], .cons ea (.cons eb .nil), [a, b] => mtGs m (.cons (.name i) (.cons (.name j) .nil)) ts && isPl a && isPl b && mtE m ea a && mtE m eb b && okO oi ea && okO oj eb
  | [(i, oi), (j, oj), (k, ok)], .cons ea (.cons eb (.cons ec .nil)), [a, b, c] => mtGs m (.cons (.name i) (.cons (.name j) (.cons (.name k) .nil))) ts && isPl a && isPl b && isPl c && mtE m ea a && mtE m eb b && mtE m ec c && okO oi ea && okO oj eb && okO ok ec
  | _, _, _ => false
def mtUnp (m : MC) (fs : List (Nat × Bool)) (es : Es) : Expr → Expr → Bool
  | .Tuple ts _ _, .Tuple vs k p => noSwap m.sc ts (.Tuple vs k p) && mtUnpL m ts fs es vs
  | _, _ => false
mutual
def mtS : MC → S → Stmt → Bool
  | m, .asg (.name i) e, .Assign [.Name x py] v _ => decide (m.N[i]? = some x) && locB m x && mtE m e v && e.esc && (!isComp v || !lcl m.sc x || (swOk m.sc x py v && eComp e))
  | m, .asg (.tup gs) e, .Assign [.Tuple ts _ _] v _ => mtGs m gs ts && mtE m e v && e.esc && noSwap m.sc ts v
  | m, .par is as, .Assign [tg] v _ => mtPar m is as tg v
  | m, .setC c i e, .Assign [.Subscript o s _] v _ => isPl s && mtE m c o && mtE m i s && mtE m e v && e.esc
  | m, .asgO i e, .Assign [.Name x py] v _ => decide (m.N[i]? = some x) && locB m x && mtE m e v && (decide (e.kind = .fr) || decide (e.kind = .fd)) && (!isComp v || !lcl m.sc x || (swOk m.sc x py v && eComp e))
  | m, .app x e, .Expr (.Call (.Attribute (.Name y _) z apos) [a] [] cpos) _ => okN m x y && z == ("append" : Str) && isPl a && mtE m e a && e.esc && (apos.endLine == cpos.line)
  | m, .setO x i e, .Assign [.Subscript (.Name y _) s _] v _ => okN m x y && isPl s && mtE m i s && mtE m e v && e.esc
  | m, .putD x as e, .Assign [.Subscript (.Name y _) (.Tuple es _ _) _] v _ => okN m x y && mtEs m as es && as.esc && decide (as.len ≤ 1000) && mtE m e v && e.esc
  | m, .forD i g b _, .For tg (.Name x _) xs [] _ => mtG m g tg && okN m i x && mtSs m b xs
  | m, .popO i x, .Assign [.Name y py] (.Call (.Attribute (.Name z _) nm apos) [] [] cpos) _ => decide (m.N[i]? = some y) && locB m y && okN m x z && nm == ("pop" : Str) && (apos.endLine == cpos.line)
  | m, .parO fs es, .Assign [tg] v _ => mtParO m fs es tg v || mtUnp m fs es tg v
  | m, .appPop f x e, .Expr (.Call (.Attribute (.Name y _) z apos) [.Call (.Attribute (.Name u _) z2 apos2) [a] [] cpos2] [] cpos) _ => okN m f y && z == ("append" : Str) && okN m x u && z2 == ("pop" : Str) && isPl a && mtE m e a && e.esc && (apos.endLine == cpos.line) && (apos2.endLine == cpos2.line)
  | m, .putE x c e, .Assign [.Subscript (.Name y _) (.Call (.Name t _) [l] [] _) _] v _ => okN m x y && t == bfN .tuple && glB m t && isPl l && mtE m c l && mtE m e v && e.esc
  | m, .extO x e, .AugAssign (.Name y _) .Add v _ => okN m x y && locB m y && isPl v && mtE m e v
  | m, .ret e, .Return (some v) _ => mtE m e v && e.esc
  | _, .ret .non, .Return none _ => true
  | m, .ife c a b, .If t xs ys _ => mtT m c t && mtSs m a xs && mtSs m b ys
  | m, .for g it b _, .For tg x xs [] _ => mtG m g tg && mtI m it tg x && it.esc && isPl x && mtSs m b xs
  | m, .whl c b _, .While t xs [] _ => mtT m c t && mtSs m b xs
  | _, .brk, .Break _ => true
  | _, .cont, .Continue _ => true
  | _, .pass, .Pass _ => true
  | m, .expr e, .Expr v _ => mtE m e v && !isComp v
  | _, .rais _, _ => true
  | _, _, _ => false
def mtSs : MC → Ss → List Stmt → Bool
  | _, .nil, [] => true
  | m, .cons (.kill _) r, xs => mtSs m r xs
  | m, .cons (.frz _) r, xs => mtSs m r xs
  | m, .cons s r, x :: xs => mtS m s x && mtSs m r xs
  | _, _, _ => false
end
section
variable {env : PySem.Env}
theorem sw_nc {v : Expr} (h : isComp v = false) (t : Option Expr) (l : Nat) (env : PySem.Env) : swapsWith v t l env = pure false := by
  cases v <;> first | rfl | cases h
theorem sw_nl {v : Expr} {x : Str} {py : Pos} (h : lcl env.scope x = false) (l : Nat) : swapsWith v (some (.Name x py)) l env = pure false := by
  have hk : (env.kindOf x == some .local) = false := by
    unfold lcl at h
    show (env.scope.names.lookup x == some .local) = false
    split at h
    · cases h
    · rename_i hn
      cases q : env.scope.names.lookup x with
      | none => rfl
      | some k => cases k <;> first | rfl | exact absurd q hn
  cases v <;> first | rfl | (unfold swapsWith; simp only [hk, Bool.and_false, Bool.false_and]; try rfl)
theorem sw_tup {v : Expr} {ts : List Expr} {k : Nat} {p : Pos} (l : Nat) (env : PySem.Env) : swapsWith v (some (.Tuple ts k p)) l env = pure false := by
  cases v <;> rfl
theorem swS_tup {v : Expr} {ts : List Expr} {k : Nat} {p : Pos} (l : Nat) (env : PySem.Env) : swapsWithSole [.Tuple ts k p] v l env = pure false := by cases v <;> rfl
theorem sw_sub {v a b : Expr} {p : Pos} (l : Nat) (env : PySem.Env) : swapsWith v (some (.Subscript a b p)) l env = pure false := by
  cases v <;> rfl
theorem swS_sub {v a b : Expr} {p : Pos} (l : Nat) (env : PySem.Env) : swapsWithSole [.Subscript a b p] v l env = pure false := by cases v <;> rfl
theorem st_sub {v a b : Expr} {p : Pos} (env : PySem.Env) : swappedStores [.Subscript a b p] v env = pure none := by
  cases v <;> rfl
theorem st_no {v : Expr} {ts : List Expr} {k : Nat} {p : Pos} (h : noSwap env.scope ts v = true) : swappedStores [.Tuple ts k p] v env = pure none := by
  cases v <;> try rfl
  rename_i vs k2 p2
  unfold noSwap at h
  unfold swappedStores
  simp only
  split
  · rfl
  · rename_i h1
    split
    · rfl
    · split
      · rfl
      · rename_i h3
        split
        · rfl
        · rename_i h4
          exfalso
          simp only [Bool.or_eq_true, not_or, bne_iff_ne, ne_eq, Decidable.not_not, Bool.not_eq_true] at h h1 h3
          rcases h with ((h | h) | h) | h
          · simp_all
          · exact h h1.1.2
          · exact h h3.1
          · exact h4 h
theorem lcl_of {sc : Scope} {x : Str} (h : lcl sc x = true) : sc.names.lookup x = some .local := by
  unfold lcl at h
  split at h
  · assumption
  · cases h
theorem fnK_of {sc : Scope} (h : fnK sc = true) : sc.kind = .function := by
  unfold fnK at h
  split at h
  · assumption
  · cases h
theorem bk_of {env : PySem.Env} (h : fnK env.scope = true) : (env.blockKind != .function) = false := by
  have := fnK_of h
  unfold Env.blockKind
  rw [this]; rfl
theorem st_par2 {x y : Str} {px py pt p2 : Pos} {a b : Expr} {k k2 : Nat} (hx : lcl env.scope x = true) (hy : lcl env.scope y = true) (hk : fnK env.scope = true) (hxy : (x == y) = false) (hl : (px.line == py.line) = true) (hp : parOk [a, b] = true) :
    swappedStores [.Tuple [.Name x px, .Name y py] k pt] (.Tuple [a, b] k2 p2) env = pure (some [x, y]) := by
  have kx : (env.kindOf x == some .local) = true := by rw [show env.kindOf x = some .local from lcl_of hx]; rfl
  have ky : (env.kindOf y == some .local) = true := by rw [show env.kindOf y = some .local from lcl_of hy]; rfl
  have hl' : (py.line == px.line) = true := by
    have : px.line = py.line := by simpa using hl
    simp [this]
  unfold parOk at hp
  simp only [Bool.and_eq_true, Bool.not_eq_true'] at hp
  obtain ⟨⟨h1, h2⟩, h3⟩ := hp
  have hyx : (y == x) = false := by
    rw [Bool.eq_false_iff] at hxy ⊢
    exact fun z => hxy (by rw [LawfulBEq.eq_of_beq z]; exact BEq.rfl)
  have e1 : [Expr.Name x px, Expr.Name y py].filterMap (fun
    | .Name id pos => if env.kindOf id == some .local && pos.line == (Expr.Name x px).pos.line then some id else none
    | _ => none) = [x, y] := by
    simp only [List.filterMap, kx, ky, Bool.true_and, show (Expr.Name x px).pos.line = px.line from rfl, hl', BEq.rfl, if_true]
  have e2 : ([x, y] : List Str).eraseDups = [x, y] := by
    simp [List.eraseDups, List.eraseDupsBy, List.eraseDupsBy.loop, hyx]
  unfold swappedStores
  simp only [bk_of hk]
  refine Eq.trans (if_neg Bool.false_ne_true) ?_
  refine Eq.trans (if_neg fun zz => Bool.false_ne_true (h1.symm.trans zz)) ?_
  refine Eq.trans (if_neg fun zz => ?_) ?_
  · have zz : (([x, y] : List Str).length != 2 || ([x, y] : List Str).eraseDups.length != ([x, y] : List Str).length) = true := by
      rw [← e1]; exact zz
    rw [e2] at zz
    exact Bool.false_ne_true zz
  refine Eq.trans (if_neg fun zz => Bool.false_ne_true (h2.symm.trans zz)) ?_
  refine Eq.trans (if_neg fun zz => Bool.false_ne_true (h3.symm.trans zz)) ?_
  exact congrArg (fun n => pure (some n)) e1
theorem st_par3 {x y z : Str} {px py pz pt p2 : Pos} {a b c : Expr} {k k2 : Nat} (hx : lcl env.scope x = true) (hy : lcl env.scope y = true) (hz : lcl env.scope z = true) (hk : fnK env.scope = true) (hxy : (x == y) = false) (hxz : (x == z) = false) (hyz : (y == z) = false) (hl : (px.line == py.line) = true) (hm : (px.line == pz.line) = true) (hp : parOk [a, b, c] = true) :
    swappedStores [.Tuple [.Name x px, .Name y py, .Name z pz] k pt] (.Tuple [a, b, c] k2 p2) env = pure (some [x, y, z]) := by
  have kx : (env.kindOf x == some .local) = true := by rw [show env.kindOf x = some .local from lcl_of hx]; rfl
  have ky : (env.kindOf y == some .local) = true := by rw [show env.kindOf y = some .local from lcl_of hy]; rfl
  have kz : (env.kindOf z == some .local) = true := by rw [show env.kindOf z = some .local from lcl_of hz]; rfl
  have hl' : (py.line == px.line) = true := by
    have : px.line = py.line := by simpa using hl
    simp [this]
  have hm' : (pz.line == px.line) = true := by
    have : px.line = pz.line := by simpa using hm
    simp [this]
  unfold parOk at hp
  simp only [Bool.and_eq_true, Bool.not_eq_true'] at hp
  obtain ⟨⟨h1, h2⟩, h3⟩ := hp
  have sy : ∀ {u v : Str}, (u == v) = false → (v == u) = false := fun h => by
    rw [Bool.eq_false_iff] at h ⊢
    exact fun z => h (by rw [LawfulBEq.eq_of_beq z]; exact BEq.rfl)
  have e1 : [Expr.Name x px, Expr.Name y py, Expr.Name z pz].filterMap (fun
    | .Name id pos => if env.kindOf id == some .local && pos.line == (Expr.Name x px).pos.line then some id else none
    | _ => none) = [x, y, z] := by
    simp only [List.filterMap, kx, ky, kz, Bool.true_and, show (Expr.Name x px).pos.line = px.line from rfl, hl', hm', BEq.rfl, if_true]
  have e2 : ([x, y, z] : List Str).eraseDups = [x, y, z] := by
    simp [List.eraseDups, List.eraseDupsBy, List.eraseDupsBy.loop, sy hxy, sy hxz, sy hyz]
  unfold swappedStores
  simp only [bk_of hk]
  refine Eq.trans (if_neg Bool.false_ne_true) ?_
  refine Eq.trans (if_neg fun zz => Bool.false_ne_true (h1.symm.trans zz)) ?_
  refine Eq.trans (if_neg fun zz => ?_) ?_
  · have zz : (([x, y, z] : List Str).length != 3 || ([x, y, z] : List Str).eraseDups.length != ([x, y, z] : List Str).length) = true := by
      rw [← e1]; exact zz
    rw [e2] at zz
    exact Bool.false_ne_true zz
  refine Eq.trans (if_neg fun zz => Bool.false_ne_true (h2.symm.trans zz)) ?_
  refine Eq.trans (if_neg fun zz => Bool.false_ne_true (h3.symm.trans zz)) ?_
  exact congrArg (fun n => pure (some n)) e1
end
end Pv

/-! P14: every statement that matches keeps its reading. -/
namespace Pv
open PySem PySem.Spec PyProof.Rows L2
section
variable {C : Cq}
theorem locFn {m : MC} {W : WX} {X : Cx} (O : XOk C m W X) {x : Str} (h : locB m x = true) : L2.Loc X.env.scope x ∧ (X.fn x = true ∨ X.env.scope.names.lookup x = some .local) := loc_of O h
theorem sAsgN (CO : CqOk C) (m : MC) (W : WX) (X : Cx) (O : XOk C m W X) (i : Nat) (e : E) (x : Str) (py pos : Pos) (v : Expr) (h : mtS m (.asg (.name i) e) (.Assign [.Name x py] v pos) = true) : PS X (.Assign [.Name x py] v pos) (RdS C W (.asg (.name i) e)) := by
  have h : (decide (m.N[i]? = some x) && locB m x && mtE m e v && e.esc && (!isComp v || !lcl m.sc x || (swOk m.sc x py v && eComp e))) = true := h
  simp only [Bool.and_eq_true] at h
  obtain ⟨⟨⟨⟨h1, h2⟩, h3⟩, h4⟩, h5⟩ := h
  have hN : X.N.Nodup := by rw [O.N]; exact O.nd
  have hi : X.N[i]? = some x := by rw [O.N]; exact of_decide_eq_true h1
  obtain ⟨l1, l2⟩ := loc_of O h2
  have pv := pe_X (sE CO e m W X O v h3) h4
  have plain : swapsWith v (some (.Name x py)) pos.line X.env = pure false → PS X (.Assign [.Name x py] v pos) (RdS C W (.asg (.name i) e)) := fun hs => PSimp (ps_set hN hi l1 pv hs l2) fun D σ H q => asg_t q
  by_cases hc : isComp v = true
  · by_cases hl : lcl m.sc x = true
    · have hs : (swOk m.sc x py v && eComp e) = true := by simpa [hc, hl] using h5
      clear h5
      rw [Bool.and_eq_true] at hs
      obtain ⟨hs, he⟩ := hs
      have hl' : X.env.scope.names.lookup x = some .local := by rw [O.sc]; exact lcl_of hl
      cases v <;> try (exact (Bool.false_ne_true hs).elim)
      rename_i elt1 gens scope cpos
      have hs : (fnK m.sc && lcl m.sc x && (py.line == cpos.line) && !(scope.names.any fun (n, k) => n == x && (k == .local || k == .cell))) = true := hs
      simp only [Bool.and_eq_true] at hs
      obtain ⟨⟨⟨s1, s2⟩, s3⟩, s4⟩ := hs
      have sw : swapsWith (.ListComp elt1 gens scope cpos) (some (.Name x py)) pos.line X.env = pure true := sw_true (by rw [O.sc]; exact fnK_of s1) hl' s3 (by simpa using s4)
      cases e <;> try (exact (Bool.false_ne_true he).elim)
      · rename_i elt g it cs vs
        match gens, h3, sw with
        | [⟨tg, iter, ifs, asy⟩], h, sw =>
          have h : (asy == 0 && L2.blkC m.N m.sc scope (ownOf m vs) && subIx g.ix vs && mtG (m.blk scope) g tg && isPl iter && mtI m it tg iter && mtTs (m.blk scope) cs ifs && mtE (m.blk scope) elt elt1 && elt.esc) = true := h
          simp only [Bool.and_eq_true] at h
          obtain ⟨⟨⟨⟨⟨⟨⟨⟨h1, h2⟩, h3⟩, h4⟩, h5⟩, h6⟩, h7⟩, h8⟩, h9⟩ := h
          have e : asy = 0 := by simpa using h1
          subst e
          have q := ps_setLc (X := X) (elt := elt1) (tg := tg) (iter := iter) (ifs := ifs) (scope := scope) (own := ownOf m vs) (pos := cpos) O.calm hN hi hl' sw (sI CO it false m W X O tg iter h6 (fun z => nomatch z)) (by rw [O.N, O.sc]; exact blkOk_by h2)
            (fun s H Cc cl fp => pgG (O.blk scope s H Cc cl fp) g tg h4) (fun s H Cc cl fp => sTs CO cs _ _ _ (O.blk scope s H Cc cl fp) ifs h7) (fun s H Cc cl fp => pe_X (sE CO elt _ _ _ (O.blk scope s H Cc cl fp) elt1 h8) h9) (fun x => fold_pl h5 _ x)
          rw [own_ix] at q
          exact PSimp q fun D σ H q => comp_tLc (sub_of h3) (asg_e rfl q)
      · rename_i elt g it cs g1 it1 cs1 vs vs1
        match gens, h3, sw with
        | [⟨tg, iter, ifs, asy⟩, ⟨tg1, iter1, ifs1, asy1⟩], h, sw =>
          have h : (asy == 0 && asy1 == 0 && L2.blkC m.N m.sc scope (ownOf m vs) && subIx g.ix vs && subIx g1.ix vs1 && subIx vs1 vs &&
            mtG (m.blk scope) g tg && mtG (m.blk scope) g1 tg1 && isPl iter && isPl iter1 && mtI m it tg iter && mtI (m.blk scope) it1 tg1 iter1 && mtTs (m.blk scope) cs ifs && mtTs (m.blk scope) cs1 ifs1 && mtE (m.blk scope) elt elt1 && elt.esc && it1.esc) = true := h
          simp only [Bool.and_eq_true] at h
          obtain ⟨⟨⟨⟨⟨⟨⟨⟨⟨⟨⟨⟨⟨⟨⟨⟨h1, h1'⟩, h2⟩, h3⟩, h3'⟩, h3''⟩, h4⟩, h4'⟩, h5⟩, h5'⟩, h6⟩, h6'⟩, h7⟩, h7'⟩, h8⟩, h9⟩, h10⟩ := h
          have e : asy = 0 := by simpa using h1
          have e' : asy1 = 0 := by simpa using h1'
          subst e e'
          have q := ps_setLc2 (X := X) (elt := elt1) (tg := tg) (iter := iter) (ifs := ifs) (tg1 := tg1) (iter1 := iter1) (ifs1 := ifs1) (scope := scope) (own := ownOf m vs) (vs1 := vs1) (pos := cpos) O.calm hN hi hl' sw (sI CO it false m W X O tg iter h6 (fun z => nomatch z)) (by rw [O.N, O.sc]; exact blkOk_by h2) (own_sub h3'')
            (fun s H Cc cl fp => pgG (O.blk scope s H Cc cl fp) g tg h4) (fun s H Cc cl fp => sTs CO cs _ _ _ (O.blk scope s H Cc cl fp) ifs h7) (fun s H Cc cl fp => sI CO it1 true _ _ _ (O.blk scope s H Cc cl fp) tg1 iter1 h6' (fun _ => h10)) (fun s H Cc cl fp => pgG (O.blk scope s H Cc cl fp) g1 tg1 h4') (fun s H Cc cl fp => sTs CO cs1 _ _ _ (O.blk scope s H Cc cl fp) ifs1 h7') (fun s H Cc cl fp => pe_X (sE CO elt _ _ _ (O.blk scope s H Cc cl fp) elt1 h8) h9) (fun x => fold_pl h5 _ x) (fun env x => fold_pl h5' env x)
          rw [own_ix] at q
          exact PSimp q fun D σ H q => comp2_tLc (sub_of h3) (sub_of h3') (asg_e rfl q)
    · refine plain (sw_nl ?_ _)
      rw [O.sc]; simpa using hl
  · exact plain (sw_nc (by simpa using hc) _ _ _)
theorem sAsgO (CO : CqOk C) (m : MC) (W : WX) (X : Cx) (O : XOk C m W X) (i : Nat) (e : E) (x : Str) (py pos : Pos) (v : Expr) (h : mtS m (.asgO i e) (.Assign [.Name x py] v pos) = true) : PS X (.Assign [.Name x py] v pos) (RdS C W (.asgO i e)) := by
  have h : (decide (m.N[i]? = some x) && locB m x && mtE m e v && (decide (e.kind = .fr) || decide (e.kind = .fd)) && (!isComp v || !lcl m.sc x || (swOk m.sc x py v && eComp e))) = true := h
  simp only [Bool.and_eq_true] at h
  obtain ⟨⟨⟨⟨h1, h2⟩, h3⟩, h4⟩, h5⟩ := h
  have hN : X.N.Nodup := by rw [O.N]; exact O.nd
  have hi : X.N[i]? = some x := by rw [O.N]; exact of_decide_eq_true h1
  obtain ⟨l1, l2⟩ := loc_of O h2
  have hk : e.kind = .fr ∨ e.kind = .fd := by simpa using h4
  have pv := sE CO e m W X O v h3
  have plain : swapsWith v (some (.Name x py)) pos.line X.env = pure false → PS X (.Assign [.Name x py] v pos) (RdS C W (.asgO i e)) := fun hs => PSimp (ps_set hN hi l1 pv hs l2) fun D σ H q => hk.elim (fun hk => asgO_t hk q) fun hk => asgO_d hk q
  by_cases hc : isComp v = true
  · by_cases hl : lcl m.sc x = true
    · have hs : (swOk m.sc x py v && eComp e) = true := by simpa [hc, hl] using h5
      clear h5
      rw [Bool.and_eq_true] at hs
      obtain ⟨hs, he⟩ := hs
      have hl' : X.env.scope.names.lookup x = some .local := by rw [O.sc]; exact lcl_of hl
      cases v <;> try (exact (Bool.false_ne_true hs).elim)
      rename_i elt1 gens scope cpos
      have hs : (fnK m.sc && lcl m.sc x && (py.line == cpos.line) && !(scope.names.any fun (n, k) => n == x && (k == .local || k == .cell))) = true := hs
      simp only [Bool.and_eq_true] at hs
      obtain ⟨⟨⟨s1, s2⟩, s3⟩, s4⟩ := hs
      have sw : swapsWith (.ListComp elt1 gens scope cpos) (some (.Name x py)) pos.line X.env = pure true := sw_true (by rw [O.sc]; exact fnK_of s1) hl' s3 (by simpa using s4)
      cases e <;> try (exact (Bool.false_ne_true he).elim)
      · rename_i elt g it cs vs
        match gens, h3, sw with
        | [⟨tg, iter, ifs, asy⟩], h, sw =>
          have h : (asy == 0 && L2.blkC m.N m.sc scope (ownOf m vs) && subIx g.ix vs && mtG (m.blk scope) g tg && isPl iter && mtI m it tg iter && mtTs (m.blk scope) cs ifs && mtE (m.blk scope) elt elt1 && elt.esc) = true := h
          simp only [Bool.and_eq_true] at h
          obtain ⟨⟨⟨⟨⟨⟨⟨⟨h1, h2⟩, h3⟩, h4⟩, h5⟩, h6⟩, h7⟩, h8⟩, h9⟩ := h
          have e : asy = 0 := by simpa using h1
          subst e
          have q := ps_setLc (X := X) (elt := elt1) (tg := tg) (iter := iter) (ifs := ifs) (scope := scope) (own := ownOf m vs) (pos := cpos) O.calm hN hi hl' sw (sI CO it false m W X O tg iter h6 (fun z => nomatch z)) (by rw [O.N, O.sc]; exact blkOk_by h2)
            (fun s H Cc cl fp => pgG (O.blk scope s H Cc cl fp) g tg h4) (fun s H Cc cl fp => sTs CO cs _ _ _ (O.blk scope s H Cc cl fp) ifs h7) (fun s H Cc cl fp => pe_X (sE CO elt _ _ _ (O.blk scope s H Cc cl fp) elt1 h8) h9) (fun x => fold_pl h5 _ x)
          rw [own_ix] at q
          exact PSimp q fun D σ H q => comp_tLc (sub_of h3) (asgO_t rfl q)
      · rename_i elt g it cs g1 it1 cs1 vs vs1
        match gens, h3, sw with
        | [⟨tg, iter, ifs, asy⟩, ⟨tg1, iter1, ifs1, asy1⟩], h, sw =>
          have h : (asy == 0 && asy1 == 0 && L2.blkC m.N m.sc scope (ownOf m vs) && subIx g.ix vs && subIx g1.ix vs1 && subIx vs1 vs &&
            mtG (m.blk scope) g tg && mtG (m.blk scope) g1 tg1 && isPl iter && isPl iter1 && mtI m it tg iter && mtI (m.blk scope) it1 tg1 iter1 && mtTs (m.blk scope) cs ifs && mtTs (m.blk scope) cs1 ifs1 && mtE (m.blk scope) elt elt1 && elt.esc && it1.esc) = true := h
          simp only [Bool.and_eq_true] at h
          obtain ⟨⟨⟨⟨⟨⟨⟨⟨⟨⟨⟨⟨⟨⟨⟨⟨h1, h1'⟩, h2⟩, h3⟩, h3'⟩, h3''⟩, h4⟩, h4'⟩, h5⟩, h5'⟩, h6⟩, h6'⟩, h7⟩, h7'⟩, h8⟩, h9⟩, h10⟩ := h
          have e : asy = 0 := by simpa using h1
          have e' : asy1 = 0 := by simpa using h1'
          subst e e'
          have q := ps_setLc2 (X := X) (elt := elt1) (tg := tg) (iter := iter) (ifs := ifs) (tg1 := tg1) (iter1 := iter1) (ifs1 := ifs1) (scope := scope) (own := ownOf m vs) (vs1 := vs1) (pos := cpos) O.calm hN hi hl' sw (sI CO it false m W X O tg iter h6 (fun z => nomatch z)) (by rw [O.N, O.sc]; exact blkOk_by h2) (own_sub h3'')
            (fun s H Cc cl fp => pgG (O.blk scope s H Cc cl fp) g tg h4) (fun s H Cc cl fp => sTs CO cs _ _ _ (O.blk scope s H Cc cl fp) ifs h7) (fun s H Cc cl fp => sI CO it1 true _ _ _ (O.blk scope s H Cc cl fp) tg1 iter1 h6' (fun _ => h10)) (fun s H Cc cl fp => pgG (O.blk scope s H Cc cl fp) g1 tg1 h4') (fun s H Cc cl fp => sTs CO cs1 _ _ _ (O.blk scope s H Cc cl fp) ifs1 h7') (fun s H Cc cl fp => pe_X (sE CO elt _ _ _ (O.blk scope s H Cc cl fp) elt1 h8) h9) (fun x => fold_pl h5 _ x) (fun env x => fold_pl h5' env x)
          rw [own_ix] at q
          exact PSimp q fun D σ H q => comp2_tLc (sub_of h3) (sub_of h3') (asgO_t rfl q)
    · refine plain (sw_nl ?_ _)
      rw [O.sc]; simpa using hl
  · exact plain (sw_nc (by simpa using hc) _ _ _)
theorem sApp (CO : CqOk C) (m : MC) (W : WX) (X : Cx) (O : XOk C m W X) (x : Nat) (e : E) (v : Expr) (pos : Pos) (h : mtS m (.app x e) (.Expr v pos) = true) : PS X (.Expr v pos) (RdS C W (.app x e)) := by
  cases v with
  | Call f es ks cpos =>
    cases f with
    | Attribute o z apos =>
      cases o with
      | Name y p =>
        match es, ks, h with
        | [a], [], h =>
          have h : (okN m x y && z == ("append" : Str) && isPl a && mtE m e a && e.esc && (apos.endLine == cpos.line)) = true := h
          simp only [Bool.and_eq_true] at h
          obtain ⟨⟨⟨⟨⟨h1, h2⟩, h3⟩, h4⟩, h5⟩, h6⟩ := h
          have ez : z = ("append" : Str) := by simpa using h2
          subst ez
          obtain ⟨o1, o2, o3, o4⟩ := okN_of O h1
          have q := pe_bm (X := X) (cpos := cpos) (apos := apos) PySem.F.plainAttrs_list PySem.F.slot_list_append PySem.F.type_list_append mt_append (pe_var (pos := p) o1 o2 o3 o4) (pa_cons (pe_X (sE CO e m W X O a h4) h5) pa_nil (star_of h3 [] X.env)) rfl (by rw [star_of h3] <;> rfl) h6 (star_of h3 [] X.env) rfl
          rw [O.K] at q
          exact PSimp (ps_expr q (sw_nc rfl _ _ _)) fun D σ H q => app_t q
      | _ => exact (Bool.false_ne_true h).elim
    | _ => exact (Bool.false_ne_true h).elim
  | _ => exact (Bool.false_ne_true h).elim
theorem sPutD (CO : CqOk C) (m : MC) (W : WX) (X : Cx) (O : XOk C m W X) (x : Nat) (as : Es) (e : E) (st : Stmt) (h : mtS m (.putD x as e) st = true) : PS X st (RdS C W (.putD x as e)) := by
  cases st with
  | Assign ts v pos =>
    match ts, h with
    | [.Subscript (.Name y p1) (.Tuple es k2 p2) p], h =>
      have h : (okN m x y && mtEs m as es && as.esc && decide (as.len ≤ 1000) && mtE m e v && e.esc) = true := h
      simp only [Bool.and_eq_true] at h
      obtain ⟨⟨⟨⟨⟨h1, h2⟩, h3⟩, h4⟩, h5⟩, h6⟩ := h
      obtain ⟨o1, o2, o3, o4⟩ := okN_of O h1
      have hu := units_of O
      exact PSimp (ps_asg (pe_X (sE CO e m W X O v h5) h6) (pg_sub (pe_var o1 o2 o3 o4) (pe_tup (sL CO as m W X O es h2 h3)) (set_dict (by omega)) (by intro v; rfl)) (swS_sub _ _) (st_sub _)) fun D σ H q => putD_t (of_decide_eq_true h4) q
  | _ => exact (Bool.false_ne_true h).elim
theorem PSdz {X : Cx} {x : Stmt} {t : TS} (h : PS X x t) : PS X x (fun D σ H => (∀ a ks, Rd H a (.dT ks) → ks.length ≤ sizeLine) → t D σ H) := ⟨fun pins s σ H D I q => h.run pins s σ H D I (q fun a ks r => (dt_rd I.hok r).1)⟩
theorem lock_orS {X : Cx} {x : Stmt} {t : TS} (h : PS X x t) : PS X x (fun D σ H => tLock t D σ H ∨ t D σ H) := ⟨fun pins s σ H D I q => q.elim ((ps_lock h).run pins s σ H D I) (h.run pins s σ H D I)⟩
theorem sPop (CO : CqOk C) (m : MC) (W : WX) (X : Cx) (O : XOk C m W X) (i x : Nat) (st : Stmt) (h : mtS m (.popO i x) st = true) : PS X st (RdS C W (.popO i x)) := by
  cases st with
  | Assign ts v pos =>
    match ts, v, h with
    | [.Name y py], .Call (.Attribute (.Name z p) nm apos) [] [] cpos, h =>
      have h : (decide (m.N[i]? = some y) && locB m y && okN m x z && nm == ("pop" : Str) && (apos.endLine == cpos.line)) = true := h
      simp only [Bool.and_eq_true] at h
      obtain ⟨⟨⟨⟨h1, h2⟩, h3⟩, h4⟩, h5⟩ := h
      have ez : nm = ("pop" : Str) := by simpa using h4
      subst ez
      have hN : X.N.Nodup := by rw [O.N]; exact O.nd
      have hi : X.N[i]? = some y := by rw [O.N]; exact of_decide_eq_true h1
      obtain ⟨l1, l2⟩ := loc_of O h2
      obtain ⟨o1, o2, o3, o4⟩ := okN_of O h3
      have q := pe_bm0 (X := X) (cpos := cpos) (apos := apos) PySem.F.plainAttrs_list PySem.F.slot_list_pop PySem.F.type_list_pop mt_pop (pe_var (pos := p) o1 o2 o3 o4) rfl h5
      rw [O.K] at q
      exact PSimp (ps_set hN hi l1 q (sw_nc rfl _ _ _) l2) fun D σ H q => popO_t q
  | _ => exact (Bool.false_ne_true h).elim
theorem sExt (CO : CqOk C) (m : MC) (W : WX) (X : Cx) (O : XOk C m W X) (x : Nat) (e : E) (st : Stmt) (h : mtS m (.extO x e) st = true) : PS X st (RdS C W (.extO x e)) := by
  cases st with
  | AugAssign t op v pos =>
    match t, op, h with
    | .Name y py, .Add, h =>
      have h : (okN m x y && locB m y && isPl v && mtE m e v) = true := h
      simp only [Bool.and_eq_true] at h
      obtain ⟨⟨⟨h1, h2⟩, h3⟩, h4⟩ := h
      have hN : X.N.Nodup := by rw [O.N]; exact O.nd
      obtain ⟨l1, l2⟩ := loc_of O h2
      obtain ⟨o1, o2, o3, o4⟩ := okN_of O h1
      exact PSimp (ps_aug hN o1 l1 (sE CO e m W X O v h4) iop_ext l2) fun D σ H q => extO_t q
  | _ => exact (Bool.false_ne_true h).elim
theorem retNE {X : Cx} {W : WX} {pos : Pos} : PS X (.Return none pos) (RdS C W (.ret .non)) := PSimp ps_retN fun _ _ _ q => retN_t q
theorem sPar (CO : CqOk C) (m : MC) (W : WX) (X : Cx) (O : XOk C m W X) (is : List Nat) (as : Es) (tg v : Expr) (pos : Pos) (h : mtPar m is as tg v = true) : PS X (.Assign [tg] v pos) (RdS C W (.par is as)) := by
  cases tg with
  | Tuple ts k1 p1 =>
    cases v with
    | Tuple vs k2 p2 =>
      have h : mtParL m as is ts vs = true := h
      match is, ts, vs, h with
      | [i, j], [s, t], [a, b], h =>
        have h : mtPar2 m i j as a b (nmOf s) (nmOf t) = true := h
        cases hs : nmOf s with
        | none => rw [hs] at h; exact (Bool.false_ne_true h).elim
        | some xp =>
        cases ht : nmOf t with
        | none => rw [hs, ht] at h; exact (Bool.false_ne_true h).elim
        | some yp =>
          obtain ⟨x, px⟩ := xp
          obtain ⟨y, py⟩ := yp
          rw [hs, ht] at h
          cases nmOf_eq hs
          cases nmOf_eq ht
          have h : (decide (m.N[i]? = some x) && decide (m.N[j]? = some y) && decide (i ≠ j) && !(x == y) && lcl m.sc x && lcl m.sc y && fnK m.sc && (px.line == py.line) && parOk [a, b] && mtEs m as [a, b] && as.esc) = true := h
          simp only [Bool.and_eq_true, decide_eq_true_eq] at h
          obtain ⟨⟨⟨⟨⟨⟨⟨⟨⟨⟨h1, h2⟩, h3⟩, h4⟩, h5⟩, h6⟩, h7⟩, h8⟩, h9⟩, h10⟩, h11⟩ := h
          rw [← O.sc] at h5 h6 h7
          exact PSimp (ps_par O.calm (by rw [O.N]; exact O.nd) (by rw [O.N]; exact h1) (by rw [O.N]; exact h2) h3 (lcl_of h5) (lcl_of h6) (sL CO as m W X O [a, b] h10 h11) (st_par2 h5 h6 h7 (by simpa using h4) h8 h9)) fun D σ H q => par_t2 q
      | [i, j, l], [s, t, r], [a, b, c], h =>
        have h : mtPar3 m i j l as a b c (nmOf s) (nmOf t) (nmOf r) = true := h
        cases hs : nmOf s with
        | none => rw [hs] at h; exact (Bool.false_ne_true h).elim
        | some xp =>
        cases ht : nmOf t with
        | none => rw [hs, ht] at h; exact (Bool.false_ne_true h).elim
        | some yp =>
        cases hr : nmOf r with
        | none => rw [hs, ht, hr] at h; exact (Bool.false_ne_true h).elim
        | some zp =>
          obtain ⟨x, px⟩ := xp
          obtain ⟨y, py⟩ := yp
          obtain ⟨z, pz⟩ := zp
          rw [hs, ht, hr] at h
          cases nmOf_eq hs
          cases nmOf_eq ht
          cases nmOf_eq hr
          have h : (decide (m.N[i]? = some x) && decide (m.N[j]? = some y) && decide (m.N[l]? = some z) && decide (i ≠ j) && decide (i ≠ l) && decide (j ≠ l) && !(x == y) && !(x == z) && !(y == z) && lcl m.sc x && lcl m.sc y && lcl m.sc z && fnK m.sc && (px.line == py.line) && (px.line == pz.line) && parOk [a, b, c] && mtEs m as [a, b, c] && as.esc) = true := h
          simp only [Bool.and_eq_true, decide_eq_true_eq] at h
          obtain ⟨⟨⟨⟨⟨⟨⟨⟨⟨⟨⟨⟨⟨⟨⟨⟨⟨h1, h2⟩, h3⟩, h4⟩, h5⟩, h6⟩, h7⟩, h8⟩, h9⟩, h10⟩, h11⟩, h12⟩, h13⟩, h14⟩, h15⟩, h16⟩, h17⟩, h18⟩ := h
          rw [← O.sc] at h10 h11 h12 h13
          exact PSimp (ps_par3 O.calm (by rw [O.N]; exact O.nd) (by rw [O.N]; exact h1) (by rw [O.N]; exact h2) (by rw [O.N]; exact h3) h4 h5 h6 (lcl_of h10) (lcl_of h11) (lcl_of h12) (sL CO as m W X O [a, b, c] h17 h18) (st_par3 h10 h11 h12 h13 (by simpa using h7) (by simpa using h8) (by simpa using h9) h14 h15 h16)) fun D σ H q => par_t3 q
    | _ => exact (Bool.false_ne_true h).elim
  | _ => cases v <;> exact (Bool.false_ne_true h).elim
theorem okO_t {o : Bool} {e : E} (h : okO o e = true) : (o = true → e.kind = .fr ∨ e.kind = .fd) ∧ (o = false → e.esc = true) := by
  unfold okO at h
  cases o with
  | true =>
    refine ⟨fun _ => ?_, fun z => nomatch z⟩
    rw [if_pos rfl, Bool.or_eq_true, decide_eq_true_eq, decide_eq_true_eq] at h
    exact h
  | false => exact ⟨fun z => (nomatch z), fun _ => by rw [if_neg Bool.false_ne_true] at h; exact h⟩
theorem sParO (CO : CqOk C) (m : MC) (W : WX) (X : Cx) (O : XOk C m W X) (fs : List (Nat × Bool)) (as : Es) (tg v : Expr) (pos : Pos) (h : mtParO m fs as tg v = true) : PS X (.Assign [tg] v pos) (RdS C W (.parO fs as)) := by
  cases tg with
  | Tuple ts k1 p1 =>
    cases v with
    | Tuple vs k2 p2 =>
      have h : mtParOL m fs as ts vs = true := h
      match fs, as, ts, vs, h with
      | [(i, oi), (j, oj)], .cons ea (.cons eb .nil), [s, t], [a, b], h =>
        have h : mtParO2 m i j oi oj ea eb a b (nmOf s) (nmOf t) = true := h
        cases hs : nmOf s with
        | none => rw [hs] at h; exact (Bool.false_ne_true h).elim
        | some xp =>
        cases ht : nmOf t with
        | none => rw [hs, ht] at h; exact (Bool.false_ne_true h).elim
        | some yp =>
          obtain ⟨x, px⟩ := xp
          obtain ⟨y, py⟩ := yp
          rw [hs, ht] at h
          cases nmOf_eq hs
          cases nmOf_eq ht
          have h : (decide (m.N[i]? = some x) && decide (m.N[j]? = some y) && decide (i ≠ j) && !(x == y) && lcl m.sc x && lcl m.sc y && fnK m.sc && (px.line == py.line) && parOk [a, b] && isPl a && isPl b && mtE m ea a && mtE m eb b && okO oi ea && okO oj eb) = true := h
          simp only [Bool.and_eq_true, decide_eq_true_eq] at h
          obtain ⟨⟨⟨⟨⟨⟨⟨⟨⟨⟨⟨⟨⟨⟨h1, h2⟩, h3⟩, h4⟩, h5⟩, h6⟩, h7⟩, h8⟩, h9⟩, q1⟩, q2⟩, q3⟩, q4⟩, q5⟩, q6⟩ := h
          rw [← O.sc] at h5 h6 h7
          obtain ⟨ka, ka'⟩ := okO_t q5
          obtain ⟨kb, kb'⟩ := okO_t q6
          have ha : PA X [a, b] (tCons (RdP C W oi ea) (tCons (RdP C W oj eb) tNil)) := pa_cons (pe_P (sE CO ea m W X O a q3) ka') (pa_cons (pe_P (sE CO eb m W X O b q4) kb') pa_nil (star_of q2 [] X.env)) (star_of q1 [b] X.env)
          exact PSimp (ps_par O.calm (by rw [O.N]; exact O.nd) (by rw [O.N]; exact h1) (by rw [O.N]; exact h2) h3 (lcl_of h5) (lcl_of h6) ha (st_par2 h5 h6 h7 (by simpa using h4) h8 h9)) fun D σ H q => parO_t2 ka kb q
      | [(i, oi), (j, oj), (l, ol)], .cons ea (.cons eb (.cons ec .nil)), [s, t, r], [a, b, c], h =>
        have h : mtParO3 m i j l oi oj ol ea eb ec a b c (nmOf s) (nmOf t) (nmOf r) = true := h
        cases hs : nmOf s with
        | none => rw [hs] at h; exact (Bool.false_ne_true h).elim
        | some xp =>
        cases ht : nmOf t with
        | none => rw [hs, ht] at h; exact (Bool.false_ne_true h).elim
        | some yp =>
        cases hr : nmOf r with
        | none => rw [hs, ht, hr] at h; exact (Bool.false_ne_true h).elim
        | some zp =>
          obtain ⟨x, px⟩ := xp
          obtain ⟨y, py⟩ := yp
          obtain ⟨z, pz⟩ := zp
          rw [hs, ht, hr] at h
          cases nmOf_eq hs
          cases nmOf_eq ht
          cases nmOf_eq hr
          have h : (decide (m.N[i]? = some x) && decide (m.N[j]? = some y) && decide (m.N[l]? = some z) && decide (i ≠ j) && decide (i ≠ l) && decide (j ≠ l) && !(x == y) && !(x == z) && !(y == z) && lcl m.sc x && lcl m.sc y && lcl m.sc z && fnK m.sc && (px.line == py.line) && (px.line == pz.line) && parOk [a, b, c] && isPl a && isPl b && isPl c && mtE m ea a && mtE m eb b && mtE m ec c && okO oi ea && okO oj eb && okO ol ec) = true := h
          simp only [Bool.and_eq_true, decide_eq_true_eq] at h
          obtain ⟨⟨⟨⟨⟨⟨⟨⟨⟨⟨⟨⟨⟨⟨⟨⟨⟨⟨⟨⟨⟨⟨⟨⟨h1, h2⟩, h3⟩, h4⟩, h5⟩, h6⟩, h7⟩, h8⟩, h9⟩, h10⟩, h11⟩, h12⟩, h13⟩, h14⟩, h15⟩, h16⟩, q1⟩, q2⟩, q3⟩, q4⟩, q5⟩, q6⟩, q7⟩, q8⟩, q9⟩ := h
          rw [← O.sc] at h10 h11 h12 h13
          obtain ⟨ka, ka'⟩ := okO_t q7
          obtain ⟨kb, kb'⟩ := okO_t q8
          obtain ⟨kc, kc'⟩ := okO_t q9
          have ha : PA X [a, b, c] (tCons (RdP C W oi ea) (tCons (RdP C W oj eb) (tCons (RdP C W ol ec) tNil))) := pa_cons (pe_P (sE CO ea m W X O a q4) ka') (pa_cons (pe_P (sE CO eb m W X O b q5) kb') (pa_cons (pe_P (sE CO ec m W X O c q6) kc') pa_nil (star_of q3 [] X.env)) (star_of q2 [c] X.env)) (star_of q1 [b, c] X.env)
          exact PSimp (ps_par3 O.calm (by rw [O.N]; exact O.nd) (by rw [O.N]; exact h1) (by rw [O.N]; exact h2) (by rw [O.N]; exact h3) h4 h5 h6 (lcl_of h10) (lcl_of h11) (lcl_of h12) ha (st_par3 h10 h11 h12 h13 (by simpa using h7) (by simpa using h8) (by simpa using h9) h14 h15 h16)) fun D σ H q => parO_t3 ka kb kc q
    | _ => exact (Bool.false_ne_true h).elim
  | _ => cases v <;> exact (Bool.false_ne_true h).elim
theorem sUnp (CO : CqOk C) (m : MC) (W : WX) (X : Cx) (O : XOk C m W X) (fs : List (Nat × Bool)) (as : Es) (tg v : Expr) (pos : Pos) (h : mtUnp m fs as tg v = true) : PS X (.Assign [tg] v pos) (RdS C W (.parO fs as)) := by
  cases tg with
  | Tuple ts k1 p1 =>
    cases v with
    | Tuple vs k2 p2 =>
      have h : (noSwap m.sc ts (.Tuple vs k2 p2) && mtUnpL m ts fs as vs) = true := h
      rw [Bool.and_eq_true] at h
      obtain ⟨hs, h⟩ := h
      have hu := units_of O
      match fs, as, vs, hs, h with
      | [(i, oi), (j, oj)], .cons ea (.cons eb .nil), [a, b], hs, h =>
        have h : (mtGs m (.cons (.name i) (.cons (.name j) .nil)) ts && isPl a && isPl b && mtE m ea a && mtE m eb b && okO oi ea && okO oj eb) = true := h
        simp only [Bool.and_eq_true] at h
        obtain ⟨⟨⟨⟨⟨⟨q0, q1⟩, q2⟩, q3⟩, q4⟩, q5⟩, q6⟩ := h
        obtain ⟨ka, ka'⟩ := okO_t q5
        obtain ⟨kb, kb'⟩ := okO_t q6
        have ha : PA X [a, b] (tCons (RdP C W oi ea) (tCons (RdP C W oj eb) tNil)) := pa_cons (pe_P (sE CO ea m W X O a q3) ka') (pa_cons (pe_P (sE CO eb m W X O b q4) kb') pa_nil (star_of q2 [] X.env)) (star_of q1 [b] X.env)
        exact PSimp (ps_asg (pe_tup ha) (pgG O (.tup _) (.Tuple ts k1 p1) q0) (swS_tup _ _) (st_no (by rw [O.sc]; exact hs))) fun D σ H q => unp_t2 ka kb q
      | [(i, oi), (j, oj), (l, ol)], .cons ea (.cons eb (.cons ec .nil)), [a, b, c], hs, h =>
        have h : (mtGs m (.cons (.name i) (.cons (.name j) (.cons (.name l) .nil))) ts && isPl a && isPl b && isPl c && mtE m ea a && mtE m eb b && mtE m ec c && okO oi ea && okO oj eb && okO ol ec) = true := h
        simp only [Bool.and_eq_true] at h
        obtain ⟨⟨⟨⟨⟨⟨⟨⟨⟨q0, q1⟩, q2⟩, q3⟩, q4⟩, q5⟩, q6⟩, q7⟩, q8⟩, q9⟩ := h
        obtain ⟨ka, ka'⟩ := okO_t q7
        obtain ⟨kb, kb'⟩ := okO_t q8
        obtain ⟨kc, kc'⟩ := okO_t q9
        have ha : PA X [a, b, c] (tCons (RdP C W oi ea) (tCons (RdP C W oj eb) (tCons (RdP C W ol ec) tNil))) := pa_cons (pe_P (sE CO ea m W X O a q4) ka') (pa_cons (pe_P (sE CO eb m W X O b q5) kb') (pa_cons (pe_P (sE CO ec m W X O c q6) kc') pa_nil (star_of q3 [] X.env)) (star_of q2 [c] X.env)) (star_of q1 [b, c] X.env)
        exact PSimp (ps_asg (pe_tup ha) (pgG O (.tup _) (.Tuple ts k1 p1) q0) (swS_tup _ _) (st_no (by rw [O.sc]; exact hs))) fun D σ H q => unp_t3 ka kb kc q
    | _ => exact (Bool.false_ne_true h).elim
  | _ => cases v <;> exact (Bool.false_ne_true h).elim
theorem sAppPop (CO : CqOk C) (m : MC) (W : WX) (X : Cx) (O : XOk C m W X) (f x : Nat) (e : E) (st : Stmt) (h : mtS m (.appPop f x e) st = true) : PS X st (RdS C W (.appPop f x e)) := by
  cases st with
  | Expr v pos =>
    match v, h with
    | .Call (.Attribute (.Name y p) z apos) [.Call (.Attribute (.Name u p2) z2 apos2) [a] [] cpos2] [] cpos, h =>
      have h : (okN m f y && z == ("append" : Str) && okN m x u && z2 == ("pop" : Str) && isPl a && mtE m e a && e.esc && (apos.endLine == cpos.line) && (apos2.endLine == cpos2.line)) = true := h
      simp only [Bool.and_eq_true] at h
      obtain ⟨⟨⟨⟨⟨⟨⟨⟨h1, h2⟩, h3⟩, h4⟩, h5⟩, h6⟩, h7⟩, h8⟩, h9⟩ := h
      have ez : z = ("append" : Str) := by simpa using h2
      have ez2 : z2 = ("pop" : Str) := by simpa using h4
      subst ez ez2
      obtain ⟨o1, o2, o3, o4⟩ := okN_of O h1
      obtain ⟨k1, k2, k3, k4⟩ := okN_of O h3
      have q0 := pe_bm (X := X) (cpos := cpos2) (apos := apos2) PySem.F.plainAttrs_list PySem.F.slot_list_pop PySem.F.type_list_pop mt_popAt (pe_var (pos := p2) k1 k2 k3 k4) (pa_cons (pe_X (sE CO e m W X O a h6) h7) pa_nil (star_of h5 [] X.env)) rfl (by rw [star_of h5] <;> rfl) h9 (star_of h5 [] X.env) rfl
      have hpl : isPl (.Call (.Attribute (.Name u p2) ("pop" : Str) apos2) [a] [] cpos2) = true := rfl
      have q := pe_bm (X := X) (cpos := cpos) (apos := apos) PySem.F.plainAttrs_list PySem.F.slot_list_append PySem.F.type_list_append mt_append (pe_var (pos := p) o1 o2 o3 o4) (pa_cons q0 pa_nil (star_of hpl [] X.env)) rfl (by rw [star_of hpl] <;> rfl) h8 (star_of hpl [] X.env) rfl
      rw [O.K] at q
      exact PSimp (ps_expr q (sw_nc rfl _ _ _)) fun D σ H q => appPop_t q
  | _ => exact (Bool.false_ne_true h).elim
theorem sPutE (CO : CqOk C) (m : MC) (W : WX) (X : Cx) (O : XOk C m W X) (x : Nat) (c e : E) (st : Stmt) (h : mtS m (.putE x c e) st = true) : PS X st (RdS C W (.putE x c e)) := by
  cases st with
  | Assign ts v pos =>
    match ts, h with
    | [.Subscript (.Name y p1) (.Call (.Name t p3) [l] [] p2) p], h =>
      have h : (okN m x y && t == bfN .tuple && glB m t && isPl l && mtE m c l && mtE m e v && e.esc) = true := h
      simp only [Bool.and_eq_true] at h
      obtain ⟨⟨⟨⟨⟨⟨h1, h2⟩, h3⟩, h4⟩, h5⟩, h6⟩, h7⟩ := h
      have et : t = bfN .tuple := by simpa using h2
      subst et
      obtain ⟨o1, o2, o3, o4⟩ := okN_of O h1
      obtain ⟨g1, g2, g3⟩ := gl_of O h3
      have hu := units_of O
      have q0 : PE X (.Call (.Name (bfN .tuple) p3) [l] [] p2) (tCB (rTupOf C.K) (tCons (RdE C W c) tNil)) := by
        have := pe_bf (X := X) (f := .tuple) (p := p3) (pos := p2) call_tuple_of g1 (bt_of CO O (bf_mem .tuple)) (pa_cons (sE CO c m W X O l h5) pa_nil (star_of h4 [] X.env)) g3 g2 (star_of h4 [] X.env) rfl
        rw [O.K] at this
        exact this
      exact PSimp (ps_asg (pe_X (sE CO e m W X O v h6) h7) (pg_sub (pe_var o1 o2 o3 o4) q0 (set_dict (by omega)) (by intro v; rfl)) (swS_sub _ _) (st_sub _)) fun D σ H q => putE_t q
  | _ => exact (Bool.false_ne_true h).elim
mutual
theorem sS (CO : CqOk C) : ∀ (s : S) (m : MC) (W : WX) (X : Cx) (O : XOk C m W X) (hp : PassesOwn (model X.prog X.w) X.A X.env X.xe) (x : Stmt), mtS m s x = true → PS X x (RdS C W s)
  | .asg (.name i) e, m, W, X, O, hp, x, h => by
    cases x with
    | Assign ts v pos =>
      match ts, h with
      | [.Name x py], h => exact sAsgN CO m W X O i e x py pos v h
    | _ => exact (Bool.false_ne_true h).elim
  | .asg (.tup gs) e, m, W, X, O, hp, x, h => by
    cases x with
    | Assign ts v pos =>
      match ts, h with
      | [.Tuple es k p], h =>
        have h : (mtGs m gs es && mtE m e v && e.esc && noSwap m.sc es v) = true := h
        simp only [Bool.and_eq_true] at h
        exact PSimp (ps_asg (pe_X (sE CO e m W X O v h.1.1.2) h.1.2) (pgG O (.tup gs) (.Tuple es k p) h.1.1.1) (swS_tup _ _) (st_no (by rw [O.sc]; exact h.2))) fun D σ H q => asg_t q
    | _ => exact (Bool.false_ne_true h).elim
  | .asgO i e, m, W, X, O, hp, x, h => by
    cases x with
    | Assign ts v pos =>
      match ts, h with
      | [.Name x py], h => exact sAsgO CO m W X O i e x py pos v h
    | _ => exact (Bool.false_ne_true h).elim
  | .par is as, m, W, X, O, hp, x, h => by
    cases x with
    | Assign ts v pos =>
      match ts, h with
      | [tg], h => exact sPar CO m W X O is as tg v pos h
    | _ => exact (Bool.false_ne_true h).elim
  | .aug _ _ _, m, W, X, O, hp, x, h => by cases x <;> exact (Bool.false_ne_true h).elim
  | .setC c i e, m, W, X, O, hp, x, h => by
    cases x with
    | Assign ts v pos =>
      match ts, h with
      | [.Subscript o s p], h =>
        have h : (isPl s && mtE m c o && mtE m i s && mtE m e v && e.esc) = true := h
        simp only [Bool.and_eq_true] at h
        obtain ⟨⟨⟨⟨h1, h2⟩, h3⟩, h4⟩, h5⟩ := h
        exact PSimp (ps_asg (pe_X (sE CO e m W X O v h4) h5) (pg_sub (sE CO c m W X O o h2) (sE CO i m W X O s h3) set_list (by intro v; cases s <;> first | rfl | cases h1)) (swS_sub _ _) (st_sub _)) fun D σ H q => setC_t q
    | _ => exact (Bool.false_ne_true h).elim
  | .setO x i e, m, W, X, O, hp, st, h => by
    cases st with
    | Assign ts v pos =>
      match ts, h with
      | [.Subscript (.Name y p1) s p], h =>
        have h : (okN m x y && isPl s && mtE m i s && mtE m e v && e.esc) = true := h
        simp only [Bool.and_eq_true] at h
        obtain ⟨⟨⟨⟨h1, h2⟩, h3⟩, h4⟩, h5⟩ := h
        obtain ⟨o1, o2, o3, o4⟩ := okN_of O h1
        exact PSimp (ps_asg (pe_X (sE CO e m W X O v h4) h5) (pg_sub (pe_var o1 o2 o3 o4) (sE CO i m W X O s h3) set_list (by intro v; cases s <;> first | rfl | cases h2)) (swS_sub _ _) (st_sub _)) fun D σ H q => setO_t q
    | _ => exact (Bool.false_ne_true h).elim
  | .app x e, m, W, X, O, hp, st, h => by
    cases st with
    | Expr v pos => exact sApp CO m W X O x e v pos h
    | _ => exact (Bool.false_ne_true h).elim
  | .popO i y, m, W, X, O, hp, x, h => sPop CO m W X O i y x h
  | .appPop f y e, m, W, X, O, hp, x, h => sAppPop CO m W X O f y e x h
  | .putE y c e, m, W, X, O, hp, x, h => sPutE CO m W X O y c e x h
  | .parO fs as, m, W, X, O, hp, x, h => by
    cases x with
    | Assign ts v pos =>
      match ts, h with
      | [tg], h =>
        have h : (mtParO m fs as tg v || mtUnp m fs as tg v) = true := h
        rw [Bool.or_eq_true] at h
        exact h.elim (sParO CO m W X O fs as tg v pos) (sUnp CO m W X O fs as tg v pos)
    | _ => exact (Bool.false_ne_true h).elim
  | .putD y as e, m, W, X, O, hp, x, h => sPutD CO m W X O y as e x h
  | .forD i g b ks, m, W, X, O, hp, x, h => by
    cases x with
    | For tg iter xs els pos =>
      match iter, els, h with
      | .Name y py, [], h =>
        have h : (mtG m g tg && okN m i y && mtSs m b xs) = true := h
        simp only [Bool.and_eq_true] at h
        obtain ⟨⟨h1, h2⟩, h3⟩ := h
        obtain ⟨o1, o2, o3, o4⟩ := okN_of O h2
        exact PSimp (PSdz (lock_orS (ps_for hp O.calm (pi_keys (pe_var (pos := py) o1 o2 o3 o4)) (pgG O g tg h1) (sSs CO b m W X O hp xs h3) (fun x => fold_pl rfl _ x)))) fun D σ H q sz => forD_t sz q
    | _ => exact (Bool.false_ne_true h).elim
  | .extO y e, m, W, X, O, hp, x, h => sExt CO m W X O y e x h
  | .ret e, m, W, X, O, hp, x, h => by
    cases x with
    | Return v pos =>
      cases v with
      | some v =>
        have h : (mtE m e v && e.esc) = true := by cases e <;> exact h
        simp only [Bool.and_eq_true] at h
        exact PSimp (ps_ret (pe_X (sE CO e m W X O v h.1) h.2)) fun D σ H q => ret_t q
      | none =>
        cases e with
        | non => exact retNE
        | _ => exact (Bool.false_ne_true h).elim
    | _ => cases e <;> exact (Bool.false_ne_true h).elim
  | .ife c a b, m, W, X, O, hp, x, h => by
    cases x with
    | If t xs ys pos =>
      have h : (mtT m c t && mtSs m a xs && mtSs m b ys) = true := h
      simp only [Bool.and_eq_true] at h
      exact PSimp (ps_if (sT CO c m W X O t h.1.1) (sSs CO a m W X O hp xs h.1.2) (sSs CO b m W X O hp ys h.2)) fun D σ H q => ife_t q
    | _ => exact (Bool.false_ne_true h).elim
  | .for g it b ks, m, W, X, O, hp, x, h => by
    cases x with
    | For tg iter xs els pos =>
      cases els with
      | nil =>
        have h : (mtG m g tg && mtI m it tg iter && it.esc && isPl iter && mtSs m b xs) = true := h
        simp only [Bool.and_eq_true] at h
        obtain ⟨⟨⟨⟨h1, h2⟩, h3⟩, h4⟩, h5⟩ := h
        exact PSimp (ps_for hp O.calm (sI CO it true m W X O tg iter h2 fun _ => h3) (pgG O g tg h1) (sSs CO b m W X O hp xs h5) (fun x => fold_pl h4 _ x)) fun D σ H q => for_t q
      | cons _ _ => exact (Bool.false_ne_true h).elim
    | _ => exact (Bool.false_ne_true h).elim
  | .whl c b ks, m, W, X, O, hp, x, h => by
    cases x with
    | While t xs els pos =>
      cases els with
      | nil =>
        have h : (mtT m c t && mtSs m b xs) = true := h
        simp only [Bool.and_eq_true] at h
        exact PSimp (ps_while hp (sT CO c m W X O t h.1) (sSs CO b m W X O hp xs h.2)) fun D σ H q => whl_t q
      | cons _ _ => exact (Bool.false_ne_true h).elim
    | _ => exact (Bool.false_ne_true h).elim
  | .brk, m, W, X, O, hp, x, h => by
    cases x with
    | Break pos => exact PSimp ps_break fun D σ H ⟨F0, ρ0, H0, F, ρ, env, st, mi, p⟩ => p F ρ H σ Sx.refl mi
    | _ => exact (Bool.false_ne_true h).elim
  | .cont, m, W, X, O, hp, x, h => by
    cases x with
    | Continue pos => exact PSimp ps_continue fun D σ H ⟨F0, ρ0, H0, F, ρ, env, st, mi, p⟩ => p F ρ H σ Sx.refl mi
    | _ => exact (Bool.false_ne_true h).elim
  | .pass, m, W, X, O, hp, x, h => by
    cases x with
    | Pass pos => exact PSimp ps_pass fun D σ H ⟨F0, ρ0, H0, F, ρ, env, st, mi, p⟩ => p F ρ H σ Sx.refl mi
    | _ => exact (Bool.false_ne_true h).elim
  | .rais _, m, W, X, O, hp, x, h => PSimp ps_never fun D σ H ⟨F0, ρ0, H0, F, ρ, env, st, mi, p⟩ => p
  | .expr e, m, W, X, O, hp, x, h => by
    cases x with
    | Expr v pos =>
      have h : (mtE m e v && !isComp v) = true := h
      simp only [Bool.and_eq_true] at h
      exact PSimp (ps_expr (sE CO e m W X O v h.1) (sw_nc (by simpa using h.2) _ _ _)) fun D σ H q => expr_t q
    | _ => exact (Bool.false_ne_true h).elim
  | .frz _, m, W, X, O, hp, x, h => by cases x <;> exact (Bool.false_ne_true h).elim
  | .kill _, m, W, X, O, hp, x, h => by cases x <;> exact (Bool.false_ne_true h).elim
theorem sSs (CO : CqOk C) : ∀ (s : Ss) (m : MC) (W : WX) (X : Cx) (O : XOk C m W X) (hp : PassesOwn (model X.prog X.w) X.A X.env X.xe) (xs : List Stmt), mtSs m s xs = true → PSs X xs (RdSs C W s)
  | .nil, m, W, X, O, hp, xs, h => by
    cases xs with
    | nil => exact PSsimp pss_nil fun D σ H ⟨F0, ρ0, H0, F, ρ, env, st, mi, p⟩ => p F ρ H σ Sx.refl mi
    | cons _ _ => exact (Bool.false_ne_true h).elim
  | .cons s r, m, W, X, O, hp, xs, h => by
    by_cases hf : ∃ i, s = .frz i
    · obtain ⟨i, rfl⟩ := hf
      exact PSsimp (sSs CO r m W X O hp xs (by cases xs <;> exact h)) fun D σ H q => frz_t q
    by_cases hk : ∃ ks, s = .kill ks
    · obtain ⟨ks, rfl⟩ := hk
      exact PSsimp (sSs CO r m W X O hp xs (by cases xs <;> exact h)) fun D σ H q => kill_t q
    · cases xs with
      | nil => cases s <;> first | exact (Bool.false_ne_true h).elim | exact (hk ⟨_, rfl⟩).elim | exact (hf ⟨_, rfl⟩).elim
      | cons x xs =>
        have h : (mtS m s x && mtSs m r xs) = true := by
          cases s <;> first | exact h | exact (hk ⟨_, rfl⟩).elim | exact (hf ⟨_, rfl⟩).elim
        simp only [Bool.and_eq_true] at h
        exact PSsimp (pss_cons (sS CO s m W X O hp x h.1) (sSs CO r m W X O hp xs h.2)) fun D σ H q => cons_t q
end
end
end Pv

/-! P15: every def keeps its promise; the law. -/
namespace Pv
open PySem PySem.Spec PyProof.Rows L2
/-- a def as a datum: the small one, the head's one, the slots' names, the parameters -/
structure DX where
  d : Def
  dd : He.DefD
  N : List Str
  ps : List Str
def mcOf (ds : List Def) (gi : List (Str × Int)) (x : DX) : MC := ⟨x.N, x.dd.scope, fun _ => true, ds.map (·.name), gi⟩
def okX (ds : List Def) (gi : List (Str × Int)) (x : DX) : Bool :=
  C8.scC x.N x.ps x.dd.scope && decide (x.ps.length = x.d.np) && decide (x.N.length = x.d.nl) && decide (x.d.np ≤ x.d.nl) && x.dd.dfl.isEmpty && x.dd.kwd.isEmpty && decide (x.dd.at_ = (x.d.name, none)) && mtSs (mcOf ds gi x) x.d.body x.dd.body
theorem look_start {ps : List PV} {n : Nat} : ∀ {i : Nat} {s : Slot}, look (ps.map Slot.val ++ List.replicate n .no) i = s → s ≠ .no → ∃ p, ps[i]? = some p ∧ s = .val p := by
  induction ps with
  | nil =>
    intro i s h n'
    exfalso
    have : ∀ (n i : Nat), look (List.replicate n Slot.no) i = .no := fun n => by
      induction n with
      | zero => intro i; rfl
      | succ n ih =>
        intro i
        cases i with
        | zero => rfl
        | succ i => exact ih i
    rw [List.map_nil, List.nil_append, this] at h
    exact n' h.symm
  | cons p ps ih =>
    intro i s h n'
    cases i with
    | zero => exact ⟨p, rfl, h.symm⟩
    | succ i => exact ih (i := i) h n'
theorem enter_ok {K : PySem.W.Frag} {F : Addr → Prop} {ρ : List Addr} {H : Hp} {st : Sto} {ps : List PV} {vs : List V} {N : List Str} {nl : Nat} (r : RepL K F ρ H vs ps) (s : StoOk K F ρ H st) (hN : N.length = nl) (d : Def) (hd : d.nl = nl) : Mid K F ρ H F ρ H (enter d ps) (L2.start N vs) st := by
  have hl := r.len
  refine ⟨Ext.refl, ⟨?_, fun i p h => ?_, fun i p h => ?_, fun i j p q a h => ?_⟩, fun i p a h => ?_, s⟩
  · unfold enter L2.start
    simp [hl, hN, hd]
  · obtain ⟨q, h1, h2⟩ := look_start h (by simp)
    cases h2
    obtain ⟨v, h3, h4⟩ := r.get' h1
    refine ⟨v, ?_, h4⟩
    unfold L2.start
    rw [List.getElem?_append_left (by simpa using (List.getElem?_eq_some_iff.mp h3).1), List.getElem?_map, h3]
    rfl
  · obtain ⟨q, h1, h2⟩ := look_start h (by simp)
    cases h2
  · obtain ⟨q, h1, h2⟩ := look_start h (by simp)
    cases h2
  · obtain ⟨q, h1, h2⟩ := look_start h (by simp)
    cases h2
theorem body_post {K : PySem.W.Frag} {F : Addr → Prop} {ρ : List Addr} {H : Hp} {st : Sto} {Q : VK} {E : XK} {Φ : Nat → List PV → M PV} {d : Def} {ps : List PV}
    (h : PostG K (fun c d _ H => E c d H) F ρ H [] (GV K .pl H Q) (runDef Φ d ps st)) : PostS K (fun c d _ H => E c d H) F ρ H F ρ H { nx := fun _ H' => Q .non H', rt := Q } (evSs Φ d.body (enter d ps) st) := by
  unfold runDef at h
  split at h
  · cases e : evSs Φ d.body (enter d ps) st with
    | ok f st' =>
      rw [e] at h
      cases f with
      | nx env' => exact fun F' ρ' H' σ' _ m => h F' ρ' H' m.ext m.sto .non .non
      | rt v => exact fun F' ρ' H' u e s r => h F' ρ' H' e s u r
      | bk env' => exact h.elim
      | ct env' => exact h.elim
    | exn x env' st' =>
      rw [e] at h
      exact fun c dd F' ρ' H' σ' m r => h c dd H' F' ρ' m.ext m.sto r
    | bad => rw [e] at h; exact h.elim
  · exact h.elim
theorem callN_len (ds : List Def) : ∀ (n f : Nat) (d : Def), ds[f]? = some d → ∀ ps st, ps.length ≠ d.np → callN ds n f ps st = .bad
  | 0, _, _, _, _, _, _ => rfl
  | n + 1, f, d, h, ps, st, hl => by
    simp only [callN, h, runDef, if_neg hl]
section
variable (P : Program) (w : World) (K : PySem.W.Frag) (mg : Str → Option Value) (base : Heap) (ds : List Def) (gi : List (Str × Int)) (ad : Nat → Addr) (fd : Nat → FuncData) (xs : Nat → DX)
def cqN (n : Nat) : Cq := ⟨P, w, K, mg, base, ds, ad, fd, fun f => (xs f).ps, n, callN ds n, gi⟩
/-- what the head says of a def -/
structure DefFact (f : Nat) (d : Def) : Prop where
  same : (xs f).d = d
  okx : okX ds gi (xs f) = true
  fun_ : FunD K (xs f).dd.name (xs f).dd.qual (xs f).dd.params (xs f).dd.body (xs f).dd.scope [] [] (ad f) (fd f)
  mg_ : mg d.name = some (.ref (ad f))
  binds : Binds K (fd f) (xs f).ps []
variable {P w K mg base ds gi ad fd xs}
theorem all_ok (hf : ∀ f d, ds[f]? = some d → DefFact K mg ds gi ad fd xs f d) (bt : ∀ x ∈ bnames, mg x = none) (hg : ∀ p ∈ gi, ∃ t, mg p.1 = some (.int p.2 t)) : ∀ n f d, ds[f]? = some d →
    FnOk P w K mg base (L2.CX P w) n (ad f) (fd f) (xs f).ps (spOf K d.np (callN ds n f)) := by
  have len : ∀ n f d, ds[f]? = some d → ∀ vs H Q E, spOf K d.np (callN ds n f) vs H Q E → vs.length = (xs f).ps.length := fun n f d h vs H Q E s => by
    have q := (hf f d h).okx
    unfold okX at q
    simp only [Bool.and_eq_true, decide_eq_true_eq] at q
    rw [s.1, q.1.1.1.1.1.1.2, (hf f d h).same]
  intro n
  induction n with
  | zero =>
    intro f d h
    refine ⟨len 0 f d h, fun A outer s H args us vs Q E hr e0 hb hv hs => ?_⟩
    obtain ⟨_, F, ρ, st, ps, _, _, p⟩ := hs
    exact p.elim
  | succ n ih =>
    intro f d h
    have D := hf f d h
    have q := D.okx
    unfold okX at q
    simp only [Bool.and_eq_true, decide_eq_true_eq] at q
    obtain ⟨⟨⟨⟨⟨⟨⟨q1, q2⟩, q3⟩, q4⟩, q5⟩, q6⟩, q7⟩, q8⟩ := q
    have S := C8.fnScope_by q1
    refine D.fun_.ok S (len (n + 1) f d h) fun cdv A outer s H vs Q E hr hs => ?_
    obtain ⟨hl, F, ρ, st, ps, r, sk, p⟩ := hs
    have CO : CqOk (cqN P w K mg base ds gi ad fd xs n) := ⟨fun f d h => ⟨ih f d h, (hf f d h).mg_, (hf f d h).fun_.kp, (hf f d h).binds, callN_len ds n f d h⟩, bt, hg⟩
    have O : XOk (cqN P w K mg base ds gi ad fd xs n) (mcOf ds gi (xs f)) (fun c d _ H => E c d H) (L2.cxOf (L2.CX P w) P w K mg base (xs f).N (xs f).dd.qual (xs f).dd.scope (ad f) cdv A outer s H E) :=
      ⟨rfl, rfl, rfl, rfl, rfl, rfl, S.nd, rfl, rfl, hr, fun _ _ => rfl, takes_of rfl rfl rfl rfl, rfl, rfl⟩
    refine ⟨RdSs (cqN P w K mg base ds gi ad fd xs n) (fun c d _ H => E c d H) (xs f).d.body, sSs CO (xs f).d.body _ _ _ O (passes_of rfl) (xs f).dd.body q8, F, ρ, H, F, ρ, enter (xs f).d ps, st, enter_ok r sk q3 (xs f).d rfl, ?_⟩
    have p : PostG K (fun c d _ H => E c d H) F ρ H [] (GV K .pl H Q) (runDef (callN ds n) (xs f).d ps st) := by
      rw [D.same]
      have e : callN ds (n + 1) f ps st = runDef (callN ds n) d ps st := by simp only [callN, h]
      rw [← e]; exact p
    exact body_post p
/-- the law's own promise -/
theorem law_sp {n f : Nat} {d : Def} {m : Nat} (hd : d.np = 1) (law : ∀ ns : List Int, ns.length ≤ m → ∃ st, callN ds n f [.scr ns] [] = .ok (.bl true) st) (H : Hp) (a : Addr) (ns : List Int) (hl : ns.length ≤ m) (hS : SqL K H a (ns.map V.int)) :
    spOf K d.np (callN ds n f) [.ref a] H (fun v _ => v = .bl true) fun _ _ _ => False := by
  obtain ⟨st, e⟩ := law ns hl
  have key : ∀ F : Addr → Prop, Rep K F [] H (.ref a) (.scr ns) → (∀ b, F b → ∃ o, H b = some o) → spOf K d.np (callN ds n f) [.ref a] H (fun v _ => v = .bl true) fun _ _ _ => False := fun F r t => by
    refine ⟨by rw [hd]; rfl, F, [], [], [.scr ns], .cons r .nil, ⟨rfl, List.nodup_nil, fun _ h => (List.not_mem_nil h).elim, t, fun k b p h => by simp at h⟩, ?_⟩
    rw [e]
    intro F' ρ' H' _ _ v rv
    cases rv
    rfl
  rcases hS with h | h
  · refine key (fun b => b = a) (.scr (.inl ⟨rfl, .inl h⟩)) fun b e => ?_
    subst e
    rcases h with h | ⟨o, h⟩
    · exact ⟨_, h⟩
    · exact ⟨_, h⟩
  · exact key (fun _ => False) (.scr (.inr fun _ => .inr h)) fun b e => e.elim
end
end Pv

/-! P16: from the head's facts to the law. -/
namespace Pv
open PySem PySem.Spec PyProof.Rows L2
/-- a def's binding -/
def BX (x : DX) : Prop := ∀ (K : PySem.W.Frag) (f : Addr) (fd : FuncData), FunD K x.dd.name x.dd.qual x.dd.params x.dd.body x.dd.scope [] [] f fd → Binds K fd x.ps []
def BXs : List DX → Prop
  | [] => True
  | x :: r => BX x ∧ BXs r
theorem BXs.get : ∀ {xs : List DX} {i : Nat} {x : DX}, BXs xs → xs[i]? = some x → BX x
  | [], _, _, _, h => by simp at h
  | _ :: _, 0, _, b, h => by
    simp at h
    subst h
    exact b.1
  | _ :: r, i + 1, x, b, h => BXs.get (xs := r) (i := i) b.2 (by simpa using h)
def faOf (ds : List Def) (gi : List (Str × Int)) : List He.Fa := ds.map (fun d => .glo d.name) ++ gi.map (fun p => .int p.1 p.2) ++ bnames.map .free
theorem facts_all {P : Program} {w : World} {K : PySem.W.Frag} {h : Heap} {mg : Str → Option Value} {ds : List Def} {gi : List (Str × Int)} {xs : List DX} {fn : List He.DefD} (X : K.In h) (G : h.Ns mainGlobals mg) (c : He.SaysD (faOf ds gi) fn K)
    (hfn : fn = xs.map (·.dd)) (hds : ds = xs.map (·.d)) (hok : xs.all (okX ds gi) = true) (hb : BXs xs) :
    ∃ fd : Nat → FuncData, (∀ n f d base, ds[f]? = some d → FnOk P w K mg base (L2.CX P w) n (He.ga K d.name) (fd f) ((xs[f]?.map (·.ps)).getD []) (spOf K d.np (callN ds n f))) ∧
      ∀ (f : Nat) (x : DX), xs[f]? = some x → FunD K x.dd.name x.dd.qual x.dd.params x.dd.body x.dd.scope [] [] (He.ga K x.d.name) (fd f) := by
  have ok : ∀ (f : Nat) (x : DX), xs[f]? = some x → okX ds gi x = true := fun f x hx => List.all_eq_true.mp hok x (List.mem_of_getElem? hx)
  have ok2 : ∀ (f : Nat) (x : DX), xs[f]? = some x → x.dd.dfl = [] ∧ x.dd.kwd = [] ∧ x.dd.at_ = (x.d.name, none) := fun f x hx => by
    have q := ok f x hx
    unfold okX at q
    simp only [Bool.and_eq_true, decide_eq_true_eq, List.isEmpty_iff] at q
    exact ⟨q.1.1.1.2, q.1.1.2, q.1.2⟩
  have ex : ∀ f : Nat, ∃ fd : FuncData, ∀ x : DX, xs[f]? = some x → FunD K x.dd.name x.dd.qual x.dd.params x.dd.body x.dd.scope [] [] (He.ga K x.d.name) fd := fun f => by
    cases hx : xs[f]? with
    | none =>
      exact ⟨⟨default, default, default, default, default, default, default, default, default, default, default, default, default, default, default⟩, fun x h => by cases h⟩
    | some x =>
      obtain ⟨o1, o2, o3⟩ := ok2 f x hx
      obtain ⟨fd, F⟩ := He.SaysD.def_ c f (d := x.dd) (by rw [hfn, List.getElem?_map, hx]; rfl)
      have e1 : x.dd.dvs K = [] := by unfold He.DefD.dvs; rw [o1]; rfl
      have e2 : x.dd.kws K = [] := by unfold He.DefD.kws; rw [o2]; rfl
      have e3 : He.fAd K x.dd.at_ = He.ga K x.d.name := by rw [o3]; rfl
      rw [e1, e2, e3] at F
      exact ⟨fd, fun y hy => by cases hy; exact F⟩
  refine ⟨fun f => Classical.choose (ex f), fun n f d base hd => ?_, fun f x hx => Classical.choose_spec (ex f) x hx⟩
  have fact : ∀ fa ∈ faOf ds gi, fa.ok K = true := fun fa hfa => He.SaysD.facts c hfa
  let ad : Nat → Addr := fun f => match ds[f]? with
    | some d => He.ga K d.name
    | none => 0
  let xf : Nat → DX := fun f => xs[f]?.getD ⟨⟨Str.empty, 0, 0, .nil⟩, ⟨(Str.empty, none), Str.empty, Str.empty, defArgs (.Pass ⟨0, 0, 0, 0⟩), [], defScope (.Pass ⟨0, 0, 0, 0⟩), [], []⟩, [], []⟩
  have hf : ∀ f d, ds[f]? = some d → DefFact K mg ds gi ad (fun f => Classical.choose (ex f)) xf f d := fun f d hd => by
    have hd' := hd
    rw [hds, List.getElem?_map] at hd'
    cases hx : xs[f]? with
    | none => rw [hx] at hd'; cases hd'
    | some x =>
      rw [hx] at hd'
      have ed : x.d = d := Option.some.inj hd'
      have e1 : xf f = x := by
        show xs[f]?.getD _ = x
        rw [hx]; rfl
      have e2 : ad f = He.ga K d.name := by
        show (match ds[f]? with | some d => He.ga K d.name | none => 0) = _
        rw [hd]
      have F := Classical.choose_spec (ex f) x hx
      rw [ed] at F
      refine ⟨by rw [e1]; exact ed, by rw [e1]; exact ok f x hx, by rw [e1, e2]; exact F, ?_, ?_⟩
      · rw [e2]
        exact He.glo_ok X G (fact _ (by
          unfold faOf
          exact List.mem_append_left _ (List.mem_append_left _ (List.mem_map.mpr ⟨d, List.mem_of_getElem? hd, rfl⟩))))
      · rw [e1]
        exact BXs.get hb hx K _ _ F
  have bt : ∀ x ∈ bnames, mg x = none := fun x hx => He.free_ok X G (fact _ (by
    unfold faOf
    exact List.mem_append_right _ (List.mem_map.mpr ⟨x, hx, rfl⟩)))
  have hg : ∀ p ∈ gi, ∃ t, mg p.1 = some (.int p.2 t) := fun p hp => He.int_ok X G (fact _ (by
    unfold faOf
    exact List.mem_append_left _ (List.mem_append_right _ (List.mem_map.mpr ⟨p, hp, rfl⟩))))
  have q := all_ok (P := P) (w := w) (base := base) hf bt hg n f d hd
  have e2 : ad f = He.ga K d.name := by
    show (match ds[f]? with | some d => He.ga K d.name | none => 0) = _
    rw [hd]
  have e3 : (xf f).ps = (xs[f]?.map (·.ps)).getD [] := by
    show (xs[f]?.getD _).ps = _
    cases hx : xs[f]? with
    | none =>
      rw [hds, List.getElem?_map, hx] at hd
      cases hd
    | some x => rfl
  rw [e2, e3] at q
  exact q
end Pv
namespace Pv
open PySem PySem.Spec PyProof.Rows L2
/-- the law's end: what may be let out is told by the world -/
theorem walkW {l : PySem.W.OpenLaw} {n k : Nat} {q : Program} {loose : List Str} {XP : (Str → Option Value) → Heap → Prop} {YP : World → Heap → Prop} {d : DefRec} {x : Str} (hn : l.most = some n) (hn2 : n ≤ sizeLine) (hdf : d.params.defaults = []) (hr : Room k callerA)
    (F : ∀ (w : World) (mg : Str → Option Value) (fa : Addr) (h : Heap), YP w h → h.Ns mainGlobals mg → mg d.name = some (.ref fa) →
      ∃ (K : PySem.W.Frag) (fd : FuncData) (sp : Sp), K.In h ∧ (∀ (s : Shared) (u : Value), BindsTo s fd ⟨[u], []⟩ [(x, u)]) ∧
        (∀ (H : Hp) (a : Addr) (ns : List Int), ns.length ≤ n → SqL K H a (ns.map V.int) → sp [.ref a] H (fun v _ => v = .bl true) fun _ _ _ => False) ∧
        ∀ base : Heap, FnOk l.prog w K mg base (L2.CX l.prog w) k fa fd [x] sp) :
    PySem.W.WalkO q loose XP YP l.row.toRowW d [] (fun f vs => PySem.call f vs) := by
  refine Att.attach_call hn hdf fun w s₀ s₁ mg mb fa o pm cd doc a vs ns G Y ho hd hcd hmg hobj hints hlen hg => ?_
  obtain ⟨K, fd, sp, KX, hb, hsp, hF⟩ := F w mg fa _ Y G.T.g hmg
  refine L2.law_call KX G.T.g G.T.b G.T.builtins G.T.nolimit hg hobj hints (Nat.le_trans hlen hn2) hr (fun base _ _ => hF base) hb (fun H _ hS => hsp H a ns hlen hS) fun H e s' z => ?_
  obtain ⟨_, _, _, _, _, _, _, _, _, _, _, _, z⟩ := z
  exact z.elim
end Pv

/-! M0: what is wanted behind a computation. -/
namespace Pv
def wM {α : Type} (m : M α) (Q : α → Sto → Prop) (st : Sto) : Prop := match m st with
  | .ok a st' => Q a st'
  | _ => False
def wS (o : SOut) (Q : Fl → Sto → Prop) : Prop := match o with
  | .ok f st' => Q f st'
  | _ => False
section
variable {α β : Type} {Q Q' : α → Sto → Prop} {st : Sto}
theorem wM_ret (a : α) : wM (M.ret a) Q st = Q a st := rfl
theorem wM_bnd {m : M α} {f : α → M β} {Q : β → Sto → Prop} : wM (M.bnd m f) Q st = wM m (fun a st' => wM (f a) Q st') st := by
  unfold wM M.bnd
  cases m st <;> rfl
theorem wM_nox {m : M α} : wM (M.nox m) Q st = wM m Q st := by
  unfold wM M.nox
  cases m st <;> rfl
theorem wM_some (a : α) : wM (M.opt (some a)) Q st = Q a st := rfl
theorem wM_none : wM (M.opt none) Q st = False := rfl
theorem wM_fun {m : Sto → M α} : wM (fun s => m s s) Q st = wM (m st) Q st := rfl
theorem wM_mono {m : M α} (h : wM m Q st) (i : ∀ a st', Q a st' → Q' a st') : wM m Q' st := by
  unfold wM at *
  cases e : m st <;> rw [e] at h
  · exact i _ _ h
  · exact h
  · exact h
theorem wM_of {m : M α} {a : α} {st' : Sto} (h : m st = .ok a st') : wM m Q st = Q a st' := by unfold wM; rw [h]
theorem wM_ex {m : M α} (h : wM m Q st) : ∃ a st', m st = .ok a st' ∧ Q a st' := by
  unfold wM at h
  cases e : m st with
  | ok a st' => rw [e] at h; exact ⟨a, st', rfl, h⟩
  | exn x st' => rw [e] at h; exact h.elim
  | bad => rw [e] at h; exact h.elim
theorem wM_eq {m : M α} {r : α} (h : wM m (fun a st' => a = r ∧ st' = st) st) : m st = .ok r st := by
  obtain ⟨a, st', e, rfl, rfl⟩ := wM_ex h
  exact e
theorem wS_lift {m : M α} {env : En} {f : α → Sto → SOut} {Q : Fl → Sto → Prop} : wS (lift m env st f) Q = wM m (fun a st' => wS (f a st') Q) st := by
  unfold wS lift wM
  cases m st <;> rfl
theorem wS_ok {f : Fl} {Q : Fl → Sto → Prop} : wS (.ok f st) Q = Q f st := rfl
theorem wS_mono {o : SOut} {Q Q' : Fl → Sto → Prop} (h : wS o Q) (i : ∀ a st', Q a st' → Q' a st') : wS o Q' := by
  unfold wS at *
  cases o
  · exact i _ _ h
  · exact h
  · exact h
def aft (Φ : Nat → List PV → M PV) (r : Ss) (Q : Fl → Sto → Prop) : Fl → Sto → Prop
  | .nx env, st => wS (evSs Φ r env st) Q
  | f, st => Q f st
theorem wS_cons {Φ : Nat → List PV → M PV} {s : S} {r : Ss} {env : En} {Q : Fl → Sto → Prop} : wS (evSs Φ (.cons s r) env st) Q = wS (evS Φ s env st) (aft Φ r Q) := by
  simp only [evSs]
  cases e : evS Φ s env st with
  | ok f st' => cases f <;> rfl
  | exn x env' st' => rfl
  | bad => rfl
theorem wS_nil {Φ : Nat → List PV → M PV} {env : En} {Q : Fl → Sto → Prop} : wS (evSs Φ .nil env st) Q = Q (.nx env) st := rfl
theorem aft_nx {Φ : Nat → List PV → M PV} {r : Ss} {Q : Fl → Sto → Prop} {env : En} {st : Sto} : aft Φ r Q (.nx env) st = wS (evSs Φ r env st) Q := rfl
theorem aft_rt {Φ : Nat → List PV → M PV} {r : Ss} {Q : Fl → Sto → Prop} {v : PV} {st : Sto} : aft Φ r Q (.rt v) st = Q (.rt v) st := rfl
def finQ (Q : PV → Sto → Prop) : Fl → Sto → Prop
  | .rt v, st => Q v st
  | .nx _, st => Q .non st
  | _, _ => False
theorem wM_call {ds : List Def} {n f : Nat} {d : Def} {args : List PV} {Q : PV → Sto → Prop} (hd : ds[f]? = some d) (hl : args.length = d.np) : wM (callN ds (n + 1) f args) Q st = wS (evSs (callN ds n) d.body (enter d args) st) (finQ Q) := by
  unfold wM
  simp only [callN, hd, runDef, if_pos hl]
  cases e : evSs (callN ds n) d.body (enter d args) st with
  | ok f st' => cases f <;> rfl
  | exn x env' st' => rfl
  | bad => rfl
end
/-- a loop that may return -/
theorem forL_some {f : PV → En → Sto → SOut} {ks : List Nat} {env : En} {st : Sto} {g : PV → Option PV} : ∀ {its : List PV}, (∀ x ∈ its, (∃ v, g x = some v ∧ f x env st = .ok (.rt v) st) ∨ (∃ env', g x = none ∧ f x env st = .ok (.nx env') st ∧ kills env' ks = env)) →
    forL f ks its env st = (match its.findSome? g with | some v => .ok (.rt v) st | none => .ok (.nx env) st)
  | [], _ => rfl
  | x :: its, h => by
    unfold forL
    rcases h x List.mem_cons_self with ⟨v, h1, h2⟩ | ⟨env', h1, h2, h3⟩
    · rw [h2, List.findSome?_cons, h1]
    · rw [h2, List.findSome?_cons, h1]
      simp only [h3]
      exact forL_some fun y hy => h y (List.mem_cons_of_mem _ hy)
/-- a loop with an invariant by the turn -/
theorem wFor {f : PV → En → Sto → SOut} {ks : List Nat} {Q : Fl → Sto → Prop} {its : List PV} (I : Nat → En → Sto → Prop) (step : ∀ i x env st, its[i]? = some x → I i env st → wS (f x env st) fun fl st' => match fl with
      | .nx env' => I (i + 1) (kills env' ks) st'
      | .ct env' => I (i + 1) (kills env' ks) st'
      | .bk env' => Q (.nx (kills env' ks)) st'
      | .rt v => Q (.rt v) st') (fin : ∀ env st, I its.length env st → Q (.nx env) st) : ∀ env st, I 0 env st → wS (forL f ks its env st) Q := by
  have key : ∀ (n i : Nat) env st, n + i = its.length → I i env st → wS (forL f ks (its.drop i) env st) Q := fun n => by
    induction n with
    | zero =>
      intro i env st hi h
      have : i = its.length := by omega
      subst this
      rw [List.drop_length]
      exact fin env st h
    | succ n ih =>
      intro i env st hi h
      have hlt : i < its.length := by omega
      have hx : its[i]? = some its[i] := List.getElem?_eq_getElem hlt
      rw [drop_cons hx]
      have s := step i _ env st hx h
      unfold forL
      cases e : f its[i] env st with
      | ok fl st' =>
        rw [e] at s
        cases fl with
        | nx env' => exact ih (i + 1) _ _ (by omega) s
        | ct env' => exact ih (i + 1) _ _ (by omega) s
        | bk env' => exact s
        | rt v => exact s
      | exn x env' st' => rw [e] at s; exact s.elim
      | bad => rw [e] at s; exact s.elim
  intro env st h
  have := key its.length 0 env st (by omega) h
  rwa [List.drop_zero] at this
/-- a comprehension that keeps the store -/
theorem compL_pure {f : PV → M (Option PV)} {st : Sto} (g : PV → Option PV) : ∀ {its : List PV}, (∀ x ∈ its, f x st = .ok (g x) st) → compL f its st = .ok (its.filterMap g) st
  | [], _ => rfl
  | x :: its, h => by
    rw [compL_cons]
    simp only [M.bnd, h x List.mem_cons_self, compL_pure g fun y hy => h y (List.mem_cons_of_mem _ hy), M.ret]
    rw [List.filterMap_cons]
    cases g x <;> rfl
/-- a comprehension that rolls -/
theorem wComp {f : PV → M (Option PV)} {Q : List PV → Sto → Prop} {its : List PV} (I : Nat → List PV → Sto → Prop) (step : ∀ i x ps st, its[i]? = some x → I i ps st → wM (f x) (fun o st' => I (i + 1) (ps ++ o.toList) st') st) (fin : ∀ ps st, I its.length ps st → Q ps st) : ∀ st, I 0 [] st → wM (compL f its) Q st := by
  have key : ∀ (n i : Nat) ps st, n + i = its.length → I i ps st → wM (compL f (its.drop i)) (fun r st' => Q (ps ++ r) st') st := fun n => by
    induction n with
    | zero =>
      intro i ps st hi h
      have : i = its.length := by omega
      subst this
      rw [List.drop_length]
      show Q (ps ++ []) st
      rw [List.append_nil]
      exact fin ps st h
    | succ n ih =>
      intro i ps st hi h
      have hlt : i < its.length := by omega
      have hx : its[i]? = some its[i] := List.getElem?_eq_getElem hlt
      rw [drop_cons hx, compL_cons, wM_bnd]
      refine wM_mono (step i _ ps st hx h) fun o st' h' => ?_
      rw [wM_bnd]
      refine wM_mono (ih (i + 1) _ _ (by omega) h') fun r st2 q => ?_
      rw [wM_ret, ← List.append_assoc]
      exact q
  intro st h
  have := key its.length 0 [] st (by omega) h
  rw [List.drop_zero] at this
  exact wM_mono this fun r st2 q => by simpa using q
theorem bindG_name (i : Nat) (p : PV) (env : En) : bindG (.name i) p env = if i < env.length then some (put env i (.val p)) else none := rfl
theorem bindG_tup (gs : Gs) (ps : List PV) (env : En) : bindG (.tup gs) (.tup ps) env = bindGs gs ps env := rfl
theorem bindGs_nil (env : En) : bindGs .nil [] env = some env := rfl
theorem bindGs_cons (g : G) (r : Gs) (p : PV) (ps : List PV) (env : En) : bindGs (.cons g r) (p :: ps) env = (bindG g p env).bind fun env' => bindGs r ps env' := rfl
theorem opt_some {α : Type} (a : α) : M.opt (some a) = M.ret a := rfl
theorem wM_ix {x y : PV} {Q : PV → Sto → Prop} {st : Sto} : wM (M.ix x y) Q st = wM (M.opt (ixS st x y)) Q st := rfl
theorem ix_tup (xs : List PV) (i : Int) : M.ix (.tup xs) (.int i) = M.opt (atL xs i) := rfl
theorem ix_lst (xs : List PV) (i : Int) : M.ix (.lst xs) (.int i) = M.opt (atL xs i) := rfl
theorem compLL_pure {f : PV → M (List PV)} {st : Sto} (g : PV → List PV) : ∀ {its : List PV}, (∀ x ∈ its, f x st = .ok (g x) st) → compLL f its st = .ok (its.flatMap g) st
  | [], _ => rfl
  | x :: its, h => by
    show M.bnd (f x) (fun o => M.bnd (compLL f its) fun r => M.ret (o ++ r)) st = _
    simp only [M.bnd, h x List.mem_cons_self, compLL_pure g fun y hy => h y (List.mem_cons_of_mem _ hy), M.ret, List.flatMap_cons]
theorem r1_nat {n : Nat} (h : n ≤ 1000000) : range1 (.int (n : Int)) = some ((List.range n).map fun (i : Nat) => PV.int (i : Int)) := by
  simp only [range1]
  rw [if_pos (by omega), Int.toNat_natCast]
theorem r2_nat {i n : Nat} (h : n ≤ 1000000) (hi : i ≤ 1000000) : range2 (.int (i : Int)) (.int (n : Int)) = some ((List.range (n - i)).map fun (k : Nat) => PV.int ((i + k : Nat) : Int)) := by
  simp only [range2]
  rw [if_pos (by omega), show ((n : Int) - (i : Int)).toNat = n - i by omega]
  simp
theorem wWhl {c : En → M Bool} {f : En → Sto → SOut} {ks : List Nat} {Q : Fl → Sto → Prop} (I : Nat → En → Sto → Prop) (step : ∀ n env st, I n env st → wM (c env) (fun b st' => match b with
      | false => Q (.nx env) st'
      | true => wS (f env st') fun fl st2 => match fl with
        | .nx env' => ∃ n', n' < n ∧ I n' (kills env' ks) st2
        | .ct env' => ∃ n', n' < n ∧ I n' (kills env' ks) st2
        | .bk env' => Q (.nx (kills env' ks)) st2
        | .rt v => Q (.rt v) st2) st) : ∀ (fuel n : Nat) env st, n < fuel → I n env st → wS (whlL c f ks fuel env st) Q
  | 0, _, _, _, h, _ => absurd h (Nat.not_lt_zero _)
  | fuel + 1, n, env, st, h, i => by
    unfold whlL
    rw [wS_lift]
    refine wM_mono (step n env st i) fun b st' q => ?_
    cases b with
    | false => exact q
    | true =>
      simp only at q ⊢
      cases e : f env st' with
      | ok fl st2 =>
        rw [e] at q
        cases fl with
        | nx env' => obtain ⟨n', h1, h2⟩ := q; exact wWhl I step fuel n' _ _ (by omega) h2
        | ct env' => obtain ⟨n', h1, h2⟩ := q; exact wWhl I step fuel n' _ _ (by omega) h2
        | bk env' => exact q
        | rt v => exact q
      | exn x env' st2 => rw [e] at q; exact q.elim
      | bad => rw [e] at q; exact q.elim
theorem bls_all (p : PV → Bool) : ∀ its : List PV, blsOf (its.filterMap fun x => some (.bl (p x))) = some (its.map p)
  | [] => rfl
  | x :: its => by
    rw [List.filterMap_cons]
    simp only [blsOf, bls_all p its, Option.map_some, List.map_cons]
theorem smallI {i : Int} (h0 : 0 ≤ i) (h1 : i ≤ 4294967296) : smallB i = true := by
  unfold smallB
  simp only [Bool.and_eq_true, decide_eq_true_eq]
  omega
theorem eqP_int (i j : Int) : eqP (.int i) (.int j) = some (decide (i = j)) := by
  simp [eqP, okD, eqB]
  by_cases h : i = j <;> simp [h]
theorem okDs_all {n : Nat} : ∀ {xs : List PV}, (∀ x ∈ xs, okD n x = true) → okDs n xs = true
  | [], _ => by simp [okDs]
  | x :: xs, h => by
    unfold okDs
    rw [h x List.mem_cons_self, okDs_all fun y hy => h y (List.mem_cons_of_mem _ hy)]
    rfl
theorem eq_nil {xs : List PV} (h : ∀ x ∈ xs, okD 29 x = true) : eqP (.lst xs) (.lst []) = some xs.isEmpty := by
  have h1 : okD 30 (.lst xs) = true := by unfold okD; exact okDs_all h
  unfold eqP
  rw [h1]
  cases xs <;> simp [okD, okDs, eqB, eqBs]
theorem cut_lo (xs : List PV) (p : Nat) (hp : p ≤ xs.length) : cutL xs none (some (p : Int)) = xs.take p := by
  simp only [cutL, cutIx]
  rw [if_neg (by omega), Int.toNat_natCast, Nat.min_eq_left hp, Nat.sub_zero, List.drop_zero]
theorem cut_hi (xs : List PV) (p : Nat) (hp : p ≤ xs.length) : cutL xs (some (p : Int)) none = xs.drop p := by
  simp only [cutL, cutIx]
  rw [if_neg (by omega), Int.toNat_natCast, Nat.min_eq_left hp]
  exact List.take_of_length_le (by simp)
theorem bin_addI (i j : Int) : binP .add (.int i) (.int j) = some (.int (i + j)) := rfl
theorem bin_subI (i j : Int) : binP .sub (.int i) (.int j) = some (.int (i - j)) := rfl
theorem cmp_leI (i j : Int) : cmpP .le (.int i) (.int j) = some (.bl (decide (i ≤ j))) := rfl
theorem cmp_ltI (i j : Int) : cmpP .lt (.int i) (.int j) = some (.bl (decide (i < j))) := rfl
theorem cmp_gtI (i j : Int) : cmpP .gt (.int i) (.int j) = some (.bl (decide (j < i))) := rfl
theorem cmp_geI (i j : Int) : cmpP .ge (.int i) (.int j) = some (.bl (decide (j ≤ i))) := rfl
theorem cmp_eqI (i j : Int) : cmpP .eq (.int i) (.int j) = some (.bl (decide (i = j))) := by
  show (eqP (.int i) (.int j)).map _ = _
  rw [eqP_int]; rfl
theorem cmp_neI (i j : Int) : cmpP .ne (.int i) (.int j) = some (.bl (!decide (i = j))) := by
  show (eqP (.int i) (.int j)).map (fun c => PV.bl (!c)) = _
  rw [eqP_int]; rfl
theorem evI_r2 (Φ : Nat → List PV → M PV) (a b : E) (env : En) : evI Φ (.r2 a b) env = M.bnd (evE Φ a env) fun x => M.bnd (evE Φ b env) fun y => M.opt (range2 x y) := by rw [evI]
theorem wM_alloc {xs : List PV} {Q : PV → Sto → Prop} {st : Sto} : wM (M.alloc (.lst xs)) Q st = Q (.cel st.length) (st ++ [.lst xs]) := rfl
theorem ixS_cel (k : Nat) (i : Int) (st : Sto) : ixS st (.cel k) (.int i) = match st[k]? with | some (.lst xs) => atL xs i | _ => none := rfl
theorem ixs2 (a b : PV) (c : PV) : M.ix (.tup [a, b, c]) (.int 2) = M.ret c := rfl
theorem forL_all {f : PV → En → Sto → SOut} {ks : List Nat} {env : En} {st : Sto} {c : PV → Bool} {v : PV} : ∀ {its : List PV}, (∀ x ∈ its, (c x = false ∧ f x env st = .ok (.rt v) st) ∨ (c x = true ∧ ∃ env', f x env st = .ok (.nx env') st ∧ kills env' ks = env)) →
    forL f ks its env st = if its.all c = true then .ok (.nx env) st else .ok (.rt v) st
  | [], _ => rfl
  | x :: its, h => by
    unfold forL
    rw [List.all_cons]
    rcases h x List.mem_cons_self with ⟨h1, h2⟩ | ⟨h1, env', h2, h3⟩
    · rw [h2, h1, Bool.false_and, if_neg (by simp)]
    · rw [h2, h1, Bool.true_and]
      simp only [h3]
      exact forL_all fun y hy => h y (List.mem_cons_of_mem _ hy)
theorem okD_int (n : Nat) (i : Int) : okD n (.int i) = true := by cases n <;> rfl
theorem ne_ints (l : List Int) : cmpP .ne (.lst (l.map .int)) (.lst []) = some (.bl (!l.isEmpty)) := by
  show (eqP (.lst (l.map PV.int)) (.lst [])).map (fun c => PV.bl (!c)) = _
  rw [eq_nil fun x hx => ?_]
  · simp
  · obtain ⟨i, _, rfl⟩ := List.mem_map.mp hx
    exact okD_int _ _
end Pv

namespace Lw
open PySem PySem.Spec PyProof.Rows L2 Pv
def top (i : Nat) : Stmt := PySem.Challenge.pw_sortingoffice_k20_whole_belts.main.body.getD i (.Pass ⟨0, 0, 0, 0⟩)
/-! 0 value; 1 low; 2 high; -/
def d0 : Def := ⟨(Str.ofString "is_whole"), 3, 3, (.cons (.ret (.bo true (.cons (.isi (.var 0) .int) (.cons (.not (.isi (.var 0) .bool)) (.cons (.cmp2 .le .le (.var 1) (.var 0) (.var 2)) .nil))))) .nil)⟩
def x0 : DX := ⟨d0, ⟨((Str.ofString "is_whole"), none), (Str.ofString "is_whole"), (Str.ofString "is_whole"), defArgs (top 4), defBody (top 4), defScope (top 4), [], []⟩, [(Str.ofString "value"), (Str.ofString "low"), (Str.ofString "high")], [(Str.ofString "value"), (Str.ofString "low"), (Str.ofString "high")]⟩

/-! 0 value; 1 low; 2 high; -/
def d1 : Def := ⟨(Str.ofString "is_tuple_of"), 3, 3, (.cons (.ret (.bo true (.cons (.isi (.var 0) .tuple) (.cons (.cmp2 .le .le (.var 1) (.bc .len (.cons (.var 0) .nil)) (.var 2)) .nil)))) .nil)⟩
def x1 : DX := ⟨d1, ⟨((Str.ofString "is_tuple_of"), none), (Str.ofString "is_tuple_of"), (Str.ofString "is_tuple_of"), defArgs (top 5), defBody (top 5), defScope (top 5), [], []⟩, [(Str.ofString "value"), (Str.ofString "low"), (Str.ofString "high")], [(Str.ofString "value"), (Str.ofString "low"), (Str.ofString "high")]⟩

/-! 0 value; 1 one; 2 other; -/
def d2 : Def := ⟨(Str.ofString "is_rising"), 1, 3, (.cons (.ret (.bc .all (.cons (.comp (.cmp .lt (.var 1) (.var 2)) (.tup (.cons (.name 1) (.cons (.name 2) .nil))) (.zip (.var 0) (.sl (.var 0) (.yes (.int 1)) .no)) .nil [1, 2]) .nil))) .nil)⟩
def x2 : DX := ⟨d2, ⟨((Str.ofString "is_rising"), none), (Str.ofString "is_rising"), (Str.ofString "is_rising"), defArgs (top 6), defBody (top 6), defScope (top 6), [], []⟩, [(Str.ofString "value"), (Str.ofString "one"), (Str.ofString "other")], [(Str.ofString "value")]⟩

/-! 0 many; 1 value; 2 one; -/
def d3 : Def := ⟨(Str.ofString "fits_some"), 2, 3, (.cons (.ret (.bo true (.cons (.call 1 (.cons (.var 1) (.cons (.int 0) (.cons (.var 0) .nil)))) (.cons (.bc .all (.cons (.comp (.call 0 (.cons (.var 2) (.cons (.int 0) (.cons (.bin .sub (.var 0) (.int 1)) .nil)))) (.name 2) (.val (.var 1)) .nil [2]) .nil)) (.cons (.call 2 (.cons (.var 1) .nil)) .nil))))) .nil)⟩
def x3 : DX := ⟨d3, ⟨((Str.ofString "fits_some"), none), (Str.ofString "fits_some"), (Str.ofString "fits_some"), defArgs (top 7), defBody (top 7), defScope (top 7), [], []⟩, [(Str.ofString "many"), (Str.ofString "value"), (Str.ofString "one")], [(Str.ofString "many"), (Str.ofString "value")]⟩

/-! 0 many; 1 value; 2 one; -/
def d4 : Def := ⟨(Str.ofString "fits_pairs"), 2, 3, (.cons (.ife (.bo false (.cons (.not (.e (.call 1 (.cons (.var 1) (.cons (.int 0) (.cons (.gint (Str.ofString "PAIRS") 12) .nil)))))) (.cons (.not (.e (.bc .all (.cons (.comp (.call 1 (.cons (.var 2) (.cons (.int 2) (.cons (.int 2) .nil)))) (.name 2) (.val (.var 1)) .nil [2]) .nil)))) .nil))) (.cons (.ret (.bl false)) .nil) .nil) (.cons (.ret (.bo true (.cons (.bc .all (.cons (.comp (.call 3 (.cons (.var 0) (.cons (.var 2) .nil))) (.name 2) (.val (.var 1)) .nil [2]) .nil)) (.cons (.call 2 (.cons (.var 1) .nil)) .nil)))) .nil))⟩
def x4 : DX := ⟨d4, ⟨((Str.ofString "fits_pairs"), none), (Str.ofString "fits_pairs"), (Str.ofString "fits_pairs"), defArgs (top 13), defBody (top 13), defScope (top 13), [], []⟩, [(Str.ofString "many"), (Str.ofString "value"), (Str.ofString "one")], [(Str.ofString "many"), (Str.ofString "value")]⟩

/-! 0 value; 1 one; -/
def d5 : Def := ⟨(Str.ofString "fits_load"), 1, 2, (.cons (.ife (.bo false (.cons (.not (.e (.call 1 (.cons (.var 0) (.cons (.int 4) (.cons (.int 4) .nil)))))) (.cons (.not (.e (.call 0 (.cons (.ix (.var 0) (.int 0)) (.cons (.int 1) (.cons (.gint (Str.ofString "BOUND") 200) .nil)))))) (.cons (.not (.e (.call 0 (.cons (.ix (.var 0) (.int 1)) (.cons (.int 1) (.cons (.gint (Str.ofString "PARCELS") 7) .nil)))))) .nil)))) (.cons (.ret (.bl false)) .nil) .nil) (.cons (.ife (.bo false (.cons (.not (.e (.call 1 (.cons (.ix (.var 0) (.int 2)) (.cons (.int 1) (.cons (.gint (Str.ofString "PARCELS") 7) .nil)))))) (.cons (.not (.e (.bc .all (.cons (.comp (.call 0 (.cons (.var 1) (.cons (.int 1) (.cons (.gint (Str.ofString "WEIGHT") 60) .nil)))) (.name 1) (.val (.ix (.var 0) (.int 2))) .nil [1]) .nil)))) .nil))) (.cons (.ret (.bl false)) .nil) .nil) (.cons (.ret (.bo true (.cons (.cmp .le (.bc .max (.cons (.ix (.var 0) (.int 2)) .nil)) (.ix (.var 0) (.int 0))) (.cons (.call 4 (.cons (.bc .len (.cons (.ix (.var 0) (.int 2)) .nil)) (.cons (.ix (.var 0) (.int 3)) .nil))) .nil)))) .nil)))⟩
def x5 : DX := ⟨d5, ⟨((Str.ofString "fits_load"), none), (Str.ofString "fits_load"), (Str.ofString "fits_load"), defArgs (top 14), defBody (top 14), defScope (top 14), [], []⟩, [(Str.ofString "value"), (Str.ofString "one")], [(Str.ofString "value")]⟩

/-! 0 load; -/
def d6 : Def := ⟨(Str.ofString "need_load"), 1, 1, (.cons (.ife (.not (.e (.call 5 (.cons (.var 0) .nil)))) (.cons (.rais (Str.ofString "InvalidBags")) .nil) .nil) .nil)⟩
def x6 : DX := ⟨d6, ⟨((Str.ofString "need_load"), none), (Str.ofString "need_load"), (Str.ofString "need_load"), defArgs (top 15), defBody (top 15), defScope (top 15), [], []⟩, [(Str.ofString "load")], [(Str.ofString "load")]⟩

/-! 0 load; 1 lot; 2 at; -/
def d7 : Def := ⟨(Str.ofString "weight_of"), 2, 3, (.cons (.ret (.bc .sum (.cons (.comp (.ix (.ix (.var 0) (.int 2)) (.var 2)) (.name 2) (.val (.var 1)) .nil [2]) .nil))) .nil)⟩
def x7 : DX := ⟨d7, ⟨((Str.ofString "weight_of"), none), (Str.ofString "weight_of"), (Str.ofString "weight_of"), defArgs (top 16), defBody (top 16), defScope (top 16), [], []⟩, [(Str.ofString "load"), (Str.ofString "lot"), (Str.ofString "at")], [(Str.ofString "load"), (Str.ofString "lot")]⟩

/-! 0 load; 1 lot; 2 one; 3 other; -/
def d8 : Def := ⟨(Str.ofString "may_in"), 2, 4, (.cons (.ife (.bo false (.cons (.cmp .gt (.call 7 (.cons (.var 0) (.cons (.var 1) .nil))) (.ix (.var 0) (.int 0))) (.cons (.cmp .gt (.bc .len (.cons (.var 1) .nil)) (.ix (.var 0) (.int 1))) .nil))) (.cons (.ret (.bl false)) .nil) .nil) (.cons (.ret (.not (.bc .any (.cons (.comp (.bo true (.cons (.cmp .isin (.var 2) (.var 1)) (.cons (.cmp .isin (.var 3) (.var 1)) .nil))) (.tup (.cons (.name 2) (.cons (.name 3) .nil))) (.val (.ix (.var 0) (.int 3))) .nil [2, 3]) .nil)))) .nil))⟩
def x8 : DX := ⟨d8, ⟨((Str.ofString "may_in"), none), (Str.ofString "may_in"), (Str.ofString "may_in"), defArgs (top 17), defBody (top 17), defScope (top 17), [], []⟩, [(Str.ofString "load"), (Str.ofString "lot"), (Str.ofString "one"), (Str.ofString "other")], [(Str.ofString "load"), (Str.ofString "lot")]⟩

/-! 0 load; 1 value; 2 many; 3 lot; 4 at; -/
def d9 : Def := ⟨(Str.ofString "fits_bags"), 2, 5, (.cons (.asg (.name 2) (.bc .len (.cons (.ix (.var 0) (.int 2)) .nil))) (.cons (.ife (.bo false (.cons (.not (.e (.call 1 (.cons (.var 1) (.cons (.int 1) (.cons (.var 2) .nil)))))) (.cons (.not (.e (.bc .all (.cons (.comp (.bo true (.cons (.call 3 (.cons (.var 2) (.cons (.var 3) .nil))) (.cons (.cmp .ne (.var 3) (.tup .nil)) .nil))) (.name 3) (.val (.var 1)) .nil [3]) .nil)))) .nil))) (.cons (.ret (.bl false)) .nil) .nil) (.cons (.ife (.bo false (.cons (.cmp .ne (.bc .sorted (.cons (.comp2 (.var 4) (.name 3) (.val (.var 1)) .nil (.name 4) (.val (.var 3)) .nil [3, 4] [4]) .nil)) (.rg1 false (.var 2))) (.cons (.not (.e (.call 2 (.cons (.var 1) .nil)))) .nil))) (.cons (.ret (.bl false)) .nil) .nil) (.cons (.ret (.bc .all (.cons (.comp (.call 8 (.cons (.var 0) (.cons (.var 3) .nil))) (.name 3) (.val (.var 1)) .nil [3]) .nil))) .nil))))⟩
def x9 : DX := ⟨d9, ⟨((Str.ofString "fits_bags"), none), (Str.ofString "fits_bags"), (Str.ofString "fits_bags"), defArgs (top 18), defBody (top 18), defScope (top 18), [], []⟩, [(Str.ofString "load"), (Str.ofString "value"), (Str.ofString "many"), (Str.ofString "lot"), (Str.ofString "at")], [(Str.ofString "load"), (Str.ofString "value")]⟩

/-! 0 bags; 1 at; 2 bag; -/
def d10 : Def := ⟨(Str.ofString "put_in"), 3, 3, (.cons (.ife (.cmp .eq (.var 2) (.bc .len (.cons (.var 0) .nil))) (.cons (.ret (.bin .add (.var 0) (.tup (.cons (.tup (.cons (.var 1) .nil)) .nil)))) .nil) .nil) (.cons (.ret (.bin .add (.bin .add (.sl (.var 0) .no (.yes (.var 2))) (.tup (.cons (.bin .add (.ix (.var 0) (.var 2)) (.tup (.cons (.var 1) .nil))) .nil))) (.sl (.var 0) (.yes (.bin .add (.var 2) (.int 1))) .no))) .nil))⟩
def x10 : DX := ⟨d10, ⟨((Str.ofString "put_in"), none), (Str.ofString "put_in"), (Str.ofString "put_in"), defArgs (top 19), defBody (top 19), defScope (top 19), [], []⟩, [(Str.ofString "bags"), (Str.ofString "at"), (Str.ofString "bag")], [(Str.ofString "bags"), (Str.ofString "at"), (Str.ofString "bag")]⟩

/-! 0 load; 1 line; 2 at; 3 rows; 4 bags; 5 bag; 6 lot; -/
def b11_l0 : Ss := (.cons (.asg (.name 3) (.comp2 (.call 10 (.cons (.var 4) (.cons (.var 2) (.cons (.var 5) .nil)))) (.name 4) (.val (.var 1)) .nil (.name 5) (.r1 (.bin .add (.bc .len (.cons (.var 4) .nil)) (.int 1))) .nil [4, 5] [5])) (.cons (.asg (.name 1) (.comp (.var 4) (.name 4) (.val (.var 3)) (.cons (.e (.bc .all (.cons (.comp (.call 8 (.cons (.var 0) (.cons (.var 6) .nil))) (.name 6) (.val (.var 4)) .nil [6]) .nil))) .nil) [4])) .nil))
def d11 : Def := ⟨(Str.ofString "all_in"), 1, 7, (.cons (.asg (.name 1) (.lst (.cons (.tup .nil) .nil))) (.cons (.for (.name 2) (.r1 (.bc .len (.cons (.ix (.var 0) (.int 2)) .nil))) b11_l0 [2, 3]) (.cons (.ret (.bc .sorted (.cons (.var 1) .nil))) .nil)))⟩
def x11 : DX := ⟨d11, ⟨((Str.ofString "all_in"), none), (Str.ofString "all_in"), (Str.ofString "all_in"), defArgs (top 20), defBody (top 20), defScope (top 20), [], []⟩, [(Str.ofString "load"), (Str.ofString "line"), (Str.ofString "at"), (Str.ofString "rows"), (Str.ofString "bags"), (Str.ofString "bag"), (Str.ofString "lot")], [(Str.ofString "load")]⟩

/-! 0 load; 1 every; 2 few; 3 bags; -/
def d12 : Def := ⟨(Str.ofString "few_in"), 1, 4, (.cons (.asg (.name 1) (.call 11 (.cons (.var 0) .nil))) (.cons (.asg (.name 2) (.bc .min (.cons (.comp (.bc .len (.cons (.var 3) .nil)) (.name 3) (.val (.var 1)) .nil [3]) .nil))) (.cons (.ret (.comp (.var 3) (.name 3) (.val (.var 1)) (.cons (.cmp .eq (.bc .len (.cons (.var 3) .nil)) (.var 2)) .nil) [3])) .nil)))⟩
def x12 : DX := ⟨d12, ⟨((Str.ofString "few_in"), none), (Str.ofString "few_in"), (Str.ofString "few_in"), defArgs (top 21), defBody (top 21), defScope (top 21), [], []⟩, [(Str.ofString "load"), (Str.ofString "every"), (Str.ofString "few"), (Str.ofString "bags")], [(Str.ofString "load")]⟩

/-! 0 load; 1 order; 2 lots; 3 at; -/
def b13_l0 : Ss := (.cons (.ife (.bo true (.cons (.cmp .ne (.own 2) (.lst .nil)) (.cons (.e (.call 8 (.cons (.var 0) (.cons (.bc .tuple (.cons (.bc .sorted (.cons (.bin .add (.ix (.own 2) (.neg (.int 1))) (.tup (.cons (.var 3) .nil))) .nil)) .nil)) .nil)))) .nil))) (.cons (.setO 2 (.neg (.int 1)) (.bc .tuple (.cons (.bc .sorted (.cons (.bin .add (.ix (.own 2) (.neg (.int 1))) (.tup (.cons (.var 3) .nil))) .nil)) .nil))) .nil) (.cons (.app 2 (.tup (.cons (.var 3) .nil))) .nil)) .nil)
def d13 : Def := ⟨(Str.ofString "belt_in"), 2, 4, (.cons (.asgO 2 (.lst .nil)) (.cons (.for (.name 3) (.val (.var 1)) b13_l0 [3]) (.cons (.frz 2) (.cons (.ret (.var 2)) .nil))))⟩
def x13 : DX := ⟨d13, ⟨((Str.ofString "belt_in"), none), (Str.ofString "belt_in"), (Str.ofString "belt_in"), defArgs (top 22), defBody (top 22), defScope (top 22), [], []⟩, [(Str.ofString "load"), (Str.ofString "order"), (Str.ofString "lots"), (Str.ofString "at")], [(Str.ofString "load"), (Str.ofString "order")]⟩

/-! 0 many; 1 found; 2 turn; 3 row; 4 at; -/
def b14_l0 : Ss := (.cons (.asg (.name 1) (.comp2 (.bin .add (.var 3) (.tup (.cons (.var 4) .nil))) (.name 3) (.val (.var 1)) .nil (.name 4) (.r1 (.var 0)) (.cons (.cmp .notin (.var 4) (.var 3)) .nil) [3, 4] [4])) .nil)
def d14 : Def := ⟨(Str.ofString "orders_of"), 1, 5, (.cons (.asg (.name 1) (.lst (.cons (.tup .nil) .nil))) (.cons (.for (.name 2) (.r1 (.var 0)) b14_l0 [2]) (.cons (.ret (.var 1)) .nil)))⟩
def x14 : DX := ⟨d14, ⟨((Str.ofString "orders_of"), none), (Str.ofString "orders_of"), (Str.ofString "orders_of"), defArgs (top 23), defBody (top 23), defScope (top 23), [], []⟩, [(Str.ofString "many"), (Str.ofString "found"), (Str.ofString "turn"), (Str.ofString "row"), (Str.ofString "at")], [(Str.ofString "many")]⟩

/-! 0 load; 1 value; -/
def d15 : Def := ⟨(Str.ofString "are_bags"), 2, 2, (.cons (.expr (.call 6 (.cons (.var 0) .nil))) (.cons (.ret (.call 9 (.cons (.var 0) (.cons (.var 1) .nil)))) .nil))⟩
def x15 : DX := ⟨d15, ⟨((Str.ofString "are_bags"), none), (Str.ofString "are_bags"), (Str.ofString "are_bags"), defArgs (top 24), defBody (top 24), defScope (top 24), [], []⟩, [(Str.ofString "load"), (Str.ofString "value")], [(Str.ofString "load"), (Str.ofString "value")]⟩

/-! 0 load; -/
def d16 : Def := ⟨(Str.ofString "fewest_bags"), 1, 1, (.cons (.expr (.call 6 (.cons (.var 0) .nil))) (.cons (.ret (.bc .len (.cons (.ix (.call 12 (.cons (.var 0) .nil)) (.int 0)) .nil))) .nil))⟩
def x16 : DX := ⟨d16, ⟨((Str.ofString "fewest_bags"), none), (Str.ofString "fewest_bags"), (Str.ofString "fewest_bags"), defArgs (top 25), defBody (top 25), defScope (top 25), [], []⟩, [(Str.ofString "load")], [(Str.ofString "load")]⟩

/-! 0 load; 1 order; -/
def d17 : Def := ⟨(Str.ofString "belt"), 2, 2, (.cons (.expr (.call 6 (.cons (.var 0) .nil))) (.cons (.ife (.not (.e (.call 18 (.cons (.var 0) (.cons (.var 1) .nil))))) (.cons (.rais (Str.ofString "InvalidBags")) .nil) .nil) (.cons (.ret (.bc .tuple (.cons (.call 13 (.cons (.var 0) (.cons (.var 1) .nil))) .nil))) .nil)))⟩
def x17 : DX := ⟨d17, ⟨((Str.ofString "belt"), none), (Str.ofString "belt"), (Str.ofString "belt"), defArgs (top 26), defBody (top 26), defScope (top 26), [], []⟩, [(Str.ofString "load"), (Str.ofString "order")], [(Str.ofString "load"), (Str.ofString "order")]⟩

/-! 0 load; 1 value; 2 many; 3 at; -/
def d18 : Def := ⟨(Str.ofString "fits_order"), 2, 4, (.cons (.asg (.name 2) (.bc .len (.cons (.ix (.var 0) (.int 2)) .nil))) (.cons (.ife (.bo false (.cons (.not (.e (.call 1 (.cons (.var 1) (.cons (.var 2) (.cons (.var 2) .nil)))))) (.cons (.not (.e (.bc .all (.cons (.comp (.call 0 (.cons (.var 3) (.cons (.int 0) (.cons (.bin .sub (.var 2) (.int 1)) .nil)))) (.name 3) (.val (.var 1)) .nil [3]) .nil)))) .nil))) (.cons (.ret (.bl false)) .nil) .nil) (.cons (.ret (.cmp .eq (.lset (.var 1)) (.var 2))) .nil)))⟩
def x18 : DX := ⟨d18, ⟨((Str.ofString "fits_order"), none), (Str.ofString "fits_order"), (Str.ofString "fits_order"), defArgs (top 27), defBody (top 27), defScope (top 27), [], []⟩, [(Str.ofString "load"), (Str.ofString "value"), (Str.ofString "many"), (Str.ofString "at")], [(Str.ofString "load"), (Str.ofString "value")]⟩

/-! 0 load; 1 rows; 2 most; 3 order; 4 row; -/
def d19 : Def := ⟨(Str.ofString "belt_counts"), 1, 5, (.cons (.expr (.call 6 (.cons (.var 0) .nil))) (.cons (.asg (.name 1) (.comp (.tup (.cons (.bc .len (.cons (.call 13 (.cons (.var 0) (.cons (.var 3) .nil))) .nil)) (.cons (.var 3) .nil))) (.name 3) (.val (.call 14 (.cons (.bc .len (.cons (.ix (.var 0) (.int 2)) .nil)) .nil))) .nil [3])) (.cons (.asg (.name 2) (.ix (.bc .max (.cons (.var 1) .nil)) (.int 0))) (.cons (.ret (.tup (.cons (.bc .min (.cons (.var 1) .nil)) (.cons (.bc .min (.cons (.comp (.var 4) (.name 4) (.val (.var 1)) (.cons (.cmp .eq (.ix (.var 4) (.int 0)) (.var 2)) .nil) [4]) .nil)) .nil)))) .nil))))⟩
def x19 : DX := ⟨d19, ⟨((Str.ofString "belt_counts"), none), (Str.ofString "belt_counts"), (Str.ofString "belt_counts"), defArgs (top 28), defBody (top 28), defScope (top 28), [], []⟩, [(Str.ofString "load"), (Str.ofString "rows"), (Str.ofString "most"), (Str.ofString "order"), (Str.ofString "row")], [(Str.ofString "load")]⟩

/-! 0 script; 1 cell; -/
def d20 : Def := ⟨(Str.ofString "_law_cup"), 1, 2, (.cons (.asg (.name 1) (.bc .abs (.cons (.ix (.bin .add (.bc .list (.cons (.var 0) .nil)) (.lst (.cons (.int 0) .nil))) (.int 0)) .nil))) (.cons (.ret (.cel (.lst (.cons (.ite (.cmp .ge (.var 1) (.bin .pow (.int 10) (.int 18))) (.bin .fdiv (.var 1) (.int 79)) (.int 0)) (.cons (.bin .add (.bin .mod (.bc .int (.cons (.bin .add (.bin .mul (.var 1) (.int 311)) (.int 4019)) .nil)) (.int 2077503319)) (.int 157)) .nil))))) .nil))⟩
def x20 : DX := ⟨d20, ⟨((Str.ofString "_law_cup"), none), (Str.ofString "_law_cup"), (Str.ofString "_law_cup"), defArgs (top 30), defBody (top 30), defScope (top 30), [], []⟩, [(Str.ofString "script"), (Str.ofString "cell")], [(Str.ofString "script")]⟩

/-! 0 cup; 1 many; 2 deep; 3 found; -/
def d21 : Def := ⟨(Str.ofString "_law_roll"), 2, 4, (.cons (.ife (.cmp .gt (.ix (.var 0) (.int 0)) (.int 0)) (.cons (.asg (.name 3) (.bin .mod (.bc .int (.cons (.ix (.var 0) (.int 0)) .nil)) (.var 1))) (.cons (.setC (.var 0) (.int 0) (.bin .fdiv (.ix (.var 0) (.int 0)) (.var 1))) (.cons (.ret (.var 3)) .nil))) .nil) (.cons (.kill [3]) (.cons (.setC (.var 0) (.int 1) (.bin .mod (.bc .int (.cons (.bin .add (.bin .mul (.ix (.var 0) (.int 1)) (.int 30881)) (.int 7877)) .nil)) (.int 2147483399))) (.cons (.asg (.name 2) (.bin .mod (.bc .int (.cons (.bin .mul (.ix (.var 0) (.int 1)) (.bin .add (.ix (.var 0) (.int 1)) (.int 229))) .nil)) (.int 2147483563))) (.cons (.ret (.bin .mod (.bc .int (.cons (.bin .fdiv (.var 2) (.int 811)) .nil)) (.var 1))) .nil)))))⟩
def x21 : DX := ⟨d21, ⟨((Str.ofString "_law_roll"), none), (Str.ofString "_law_roll"), (Str.ofString "_law_roll"), defArgs (top 31), defBody (top 31), defScope (top 31), [], []⟩, [(Str.ofString "cup"), (Str.ofString "many"), (Str.ofString "deep"), (Str.ofString "found")], [(Str.ofString "cup"), (Str.ofString "many")]⟩

/-! 0 cup; 1 things; -/
def d22 : Def := ⟨(Str.ofString "_law_some"), 2, 2, (.cons (.ret (.ix (.var 1) (.call 21 (.cons (.var 0) (.cons (.bc .len (.cons (.var 1) .nil)) .nil))))) .nil)⟩
def x22 : DX := ⟨d22, ⟨((Str.ofString "_law_some"), none), (Str.ofString "_law_some"), (Str.ofString "_law_some"), defArgs (top 32), defBody (top 32), defScope (top 32), [], []⟩, [(Str.ofString "cup"), (Str.ofString "things")], [(Str.ofString "cup"), (Str.ofString "things")]⟩

/-! 0 told; 1 due; 2 at; -/
def d23 : Def := ⟨(Str.ofString "_law_same"), 2, 3, (.cons (.ife (.e (.isi (.var 1) .tuple)) (.cons (.ife (.bo false (.cons (.not (.e (.isi (.var 0) .tuple))) (.cons (.cmp .ne (.bc .len (.cons (.var 0) .nil)) (.bc .len (.cons (.var 1) .nil))) .nil))) (.cons (.ret (.bl false)) .nil) .nil) (.cons (.ret (.bc .all (.cons (.comp (.call 23 (.cons (.ix (.var 0) (.var 2)) (.cons (.ix (.var 1) (.var 2)) .nil))) (.name 2) (.r1 (.bc .len (.cons (.var 1) .nil))) .nil [2]) .nil))) .nil)) .nil) (.cons (.ife (.cmp .is_ (.var 1) .non) (.cons (.ret (.cmp .is_ (.var 0) .non)) .nil) .nil) (.cons (.ife (.e (.isi (.var 1) .bool)) (.cons (.ret (.ite (.e (.var 1)) (.cmp .is_ (.var 0) (.bl true)) (.cmp .is_ (.var 0) (.bl false)))) .nil) .nil) (.cons (.ife (.e (.isi (.var 1) .int)) (.cons (.ret (.bo true (.cons (.isi (.var 0) .int) (.cons (.not (.isi (.var 0) .bool)) (.cons (.cmp .eq (.bc .int (.cons (.var 0) .nil)) (.var 1)) .nil))))) .nil) .nil) (.cons (.ret (.bo true (.cons (.isi (.var 0) .str) (.cons (.cmp .eq (.bc .str (.cons (.var 0) .nil)) (.var 1)) .nil)))) .nil)))))⟩
def x23 : DX := ⟨d23, ⟨((Str.ofString "_law_same"), none), (Str.ofString "_law_same"), (Str.ofString "_law_same"), defArgs (top 33), defBody (top 33), defScope (top 33), [], []⟩, [(Str.ofString "told"), (Str.ofString "due"), (Str.ofString "at")], [(Str.ofString "told"), (Str.ofString "due")]⟩

/-! 0 cup; 1 things; 2 left; 3 found; 4 turn; -/
def b24_l0 : Ss := (.cons (.appPop 3 2 (.call 21 (.cons (.var 0) (.cons (.bc .len (.cons (.own 2) .nil)) .nil)))) .nil)
def d24 : Def := ⟨(Str.ofString "_law_turned"), 2, 5, (.cons (.parO [(2, true), (3, true)] (.cons (.lof (.var 1)) (.cons (.lst .nil) .nil))) (.cons (.kill [1]) (.cons (.for (.name 4) (.r1 (.bc .len (.cons (.own 2) .nil))) b24_l0 [4]) (.cons (.ret (.bc .tuple (.cons (.own 3) .nil))) .nil))))⟩
def x24 : DX := ⟨d24, ⟨((Str.ofString "_law_turned"), none), (Str.ofString "_law_turned"), (Str.ofString "_law_turned"), defArgs (top 34), defBody (top 34), defScope (top 34), [], []⟩, [(Str.ofString "cup"), (Str.ofString "things"), (Str.ofString "left"), (Str.ofString "found"), (Str.ofString "turn")], [(Str.ofString "cup"), (Str.ofString "things")]⟩

/-! 0 many; 1 found; 2 turn; 3 longer; 4 row; 5 at; -/
def b25_l0 : Ss := (.cons (.asg (.name 3) (.bin .add (.var 3) (.comp (.bin .add (.var 4) (.tup (.cons (.var 5) .nil))) (.name 5) (.r1 (.var 0)) (.cons (.cmp .notin (.var 5) (.var 4)) .nil) [5]))) .nil)
def b25_l1 : Ss := (.cons (.asg (.name 3) (.lst .nil)) (.cons (.kill [2]) (.cons (.for (.name 4) (.val (.var 1)) b25_l0 [4]) (.cons (.asg (.name 1) (.var 3)) .nil))))
def d25 : Def := ⟨(Str.ofString "_law_orders"), 1, 6, (.cons (.asg (.name 1) (.lst (.cons (.tup .nil) .nil))) (.cons (.for (.name 2) (.r1 (.var 0)) b25_l1 [2, 3, 4]) (.cons (.ret (.var 1)) .nil)))⟩
def x25 : DX := ⟨d25, ⟨((Str.ofString "_law_orders"), none), (Str.ofString "_law_orders"), (Str.ofString "_law_orders"), defArgs (top 35), defBody (top 35), defScope (top 35), [], []⟩, [(Str.ofString "many"), (Str.ofString "found"), (Str.ofString "turn"), (Str.ofString "longer"), (Str.ofString "row"), (Str.ofString "at")], [(Str.ofString "many")]⟩

/-! 0 cup; 1 parcels; 2 many; 3 size; 4 weights; 5 pairs; 6 one; 7 at; 8 other; -/
def b26_l0 : Ss := (.cons (.asg (.name 5) (.bin .add (.var 5) (.bc .tuple (.cons (.comp (.tup (.cons (.var 6) (.cons (.var 8) .nil))) (.name 8) (.r2 (.bin .add (.var 6) (.int 1)) (.var 2)) (.cons (.bo true (.cons (.cmp .eq (.call 21 (.cons (.var 0) (.cons (.int 6) .nil))) (.int 0)) (.cons (.cmp .lt (.bc .len (.cons (.var 5) .nil)) (.int 7)) .nil))) .nil) [8]) .nil)))) .nil)
def d26 : Def := ⟨(Str.ofString "_law_load"), 2, 9, (.cons (.asg (.tup (.cons (.name 2) (.cons (.name 3) .nil))) (.tup (.cons (.bin .add (.int 1) (.call 21 (.cons (.var 0) (.cons (.var 1) .nil)))) (.cons (.call 22 (.cons (.var 0) (.cons (.lst (.cons (.int 3) (.cons (.int 10) (.cons (.int 60) .nil)))) .nil))) .nil)))) (.cons (.asg (.name 4) (.bc .tuple (.cons (.comp (.bin .add (.int 1) (.call 21 (.cons (.var 0) (.cons (.var 3) .nil)))) (.name 7) (.r1 (.var 2)) .nil [7]) .nil))) (.cons (.asg (.name 5) (.tup .nil)) (.cons (.kill [1]) (.cons (.for (.name 6) (.r1 (.var 2)) b26_l0 [6]) (.cons (.ret (.tup (.cons (.bin .add (.bc .max (.cons (.var 4) .nil)) (.call 21 (.cons (.var 0) (.cons (.bin .add (.var 3) (.int 3)) .nil)))) (.cons (.bin .add (.int 1) (.call 21 (.cons (.var 0) (.cons (.int 5) .nil)))) (.cons (.var 4) (.cons (.sl (.var 5) .no (.yes (.int 12))) .nil)))))) .nil))))))⟩
def x26 : DX := ⟨d26, ⟨((Str.ofString "_law_load"), none), (Str.ofString "_law_load"), (Str.ofString "_law_load"), defArgs (top 36), defBody (top 36), defScope (top 36), [], []⟩, [(Str.ofString "cup"), (Str.ofString "parcels"), (Str.ofString "many"), (Str.ofString "size"), (Str.ofString "weights"), (Str.ofString "pairs"), (Str.ofString "one"), (Str.ofString "at"), (Str.ofString "other")], [(Str.ofString "cup"), (Str.ofString "parcels")]⟩

/-! 0 load; 1 lot; 2 pair; 3 at; -/
def d27 : Def := ⟨(Str.ofString "_law_may"), 2, 4, (.cons (.ife (.bo false (.cons (.cmp .gt (.bc .sum (.cons (.comp (.ix (.ix (.var 0) (.int 2)) (.var 3)) (.name 3) (.val (.var 1)) .nil [3]) .nil)) (.ix (.var 0) (.int 0))) (.cons (.cmp .gt (.bc .len (.cons (.var 1) .nil)) (.ix (.var 0) (.int 1))) .nil))) (.cons (.ret (.bl false)) .nil) .nil) (.cons (.ret (.cmp .eq (.comp (.var 2) (.name 2) (.val (.ix (.var 0) (.int 3))) (.cons (.bo true (.cons (.cmp .isin (.ix (.var 2) (.int 0)) (.var 1)) (.cons (.cmp .isin (.ix (.var 2) (.int 1)) (.var 1)) .nil))) .nil) [2]) (.lst .nil))) .nil))⟩
def x27 : DX := ⟨d27, ⟨((Str.ofString "_law_may"), none), (Str.ofString "_law_may"), (Str.ofString "_law_may"), defArgs (top 37), defBody (top 37), defScope (top 37), [], []⟩, [(Str.ofString "load"), (Str.ofString "lot"), (Str.ofString "pair"), (Str.ofString "at")], [(Str.ofString "load"), (Str.ofString "lot")]⟩

/-! 0 load; 1 order; 2 found; 3 here; 4 at; -/
def b28_l0 : Ss := (.cons (.ife (.bo true (.cons (.cmp .ne (.var 3) (.tup .nil)) (.cons (.e (.call 27 (.cons (.var 0) (.cons (.bin .add (.var 3) (.tup (.cons (.var 4) .nil))) .nil)))) .nil))) (.cons (.asg (.name 3) (.bin .add (.var 3) (.tup (.cons (.var 4) .nil)))) .nil) (.cons (.par [2, 3] (.cons (.bin .add (.var 2) (.ite (.cmp .ne (.var 3) (.tup .nil)) (.tup (.cons (.bc .tuple (.cons (.bc .sorted (.cons (.var 3) .nil)) .nil)) .nil)) (.tup .nil))) (.cons (.tup (.cons (.var 4) .nil)) .nil))) .nil)) .nil)
def d28 : Def := ⟨(Str.ofString "_law_belt"), 2, 5, (.cons (.asg (.tup (.cons (.name 2) (.cons (.name 3) .nil))) (.tup (.cons (.tup .nil) (.cons (.tup .nil) .nil)))) (.cons (.for (.name 4) (.val (.var 1)) b28_l0 [4]) (.cons (.ret (.bin .add (.var 2) (.tup (.cons (.bc .tuple (.cons (.bc .sorted (.cons (.var 3) .nil)) .nil)) .nil)))) .nil)))⟩
def x28 : DX := ⟨d28, ⟨((Str.ofString "_law_belt"), none), (Str.ofString "_law_belt"), (Str.ofString "_law_belt"), defArgs (top 38), defBody (top 38), defScope (top 38), [], []⟩, [(Str.ofString "load"), (Str.ofString "order"), (Str.ofString "found"), (Str.ofString "here"), (Str.ofString "at")], [(Str.ofString "load"), (Str.ofString "order")]⟩

/-! 0 cup; 1 load; 2 many; 3 orders; 4 turn; 5 rows; 6 most; 7 told; 8 order; 9 lots; 10 size; -/
def b29_l0 : Ss := (.cons (.asg (.name 8) (.call 22 (.cons (.var 0) (.cons (.var 3) .nil)))) (.cons (.asg (.name 9) (.call 17 (.cons (.var 1) (.cons (.var 8) .nil)))) (.cons (.ife (.bo false (.cons (.not (.e (.call 23 (.cons (.var 9) (.cons (.call 28 (.cons (.var 1) (.cons (.var 8) .nil))) .nil))))) (.cons (.cmp .isnot (.call 15 (.cons (.var 1) (.cons (.bc .tuple (.cons (.bc .sorted (.cons (.var 9) .nil)) .nil)) .nil))) (.bl true)) .nil))) (.cons (.ret (.bl false)) .nil) .nil) .nil)))
def d29 : Def := ⟨(Str.ofString "_law_right"), 1, 11, (.cons (.asg (.name 1) (.call 26 (.cons (.var 0) (.cons (.int 5) .nil)))) (.cons (.asg (.name 2) (.bc .len (.cons (.ix (.var 1) (.int 2)) .nil))) (.cons (.asg (.name 3) (.call 25 (.cons (.var 2) .nil))) (.cons (.for (.name 4) (.r1 (.int 4)) b29_l0 [4, 8, 9]) (.cons (.asg (.name 5) (.comp (.tup (.cons (.bc .len (.cons (.call 28 (.cons (.var 1) (.cons (.var 8) .nil))) .nil)) (.cons (.var 8) .nil))) (.name 8) (.val (.var 3)) .nil [8])) (.cons (.asg (.name 6) (.bc .max (.cons (.comp (.var 10) (.tup (.cons (.name 10) (.cons (.name 8) .nil))) (.val (.var 5)) .nil [10, 8]) .nil))) (.cons (.asg (.name 7) (.call 19 (.cons (.var 1) .nil))) (.cons (.ife (.not (.e (.call 23 (.cons (.var 7) (.cons (.tup (.cons (.bc .min (.cons (.var 5) .nil)) (.cons (.ix (.comp (.tup (.cons (.var 10) (.cons (.var 8) .nil))) (.tup (.cons (.name 10) (.cons (.name 8) .nil))) (.val (.var 5)) (.cons (.cmp .eq (.var 10) (.var 6)) .nil) [10, 8]) (.int 0)) .nil))) .nil))))) (.cons (.ret (.bl false)) .nil) .nil) (.cons (.ret (.bo true (.cons (.cmp .eq (.ix (.ix (.var 7) (.int 0)) (.int 0)) (.call 16 (.cons (.var 1) .nil))) (.cons (.cmp2 .le .le (.ix (.ix (.var 7) (.int 0)) (.int 0)) (.ix (.ix (.var 7) (.int 1)) (.int 0)) (.var 2)) .nil)))) .nil)))))))))⟩
def x29 : DX := ⟨d29, ⟨((Str.ofString "_law_right"), none), (Str.ofString "_law_right"), (Str.ofString "_law_right"), defArgs (top 39), defBody (top 39), defScope (top 39), [], []⟩, [(Str.ofString "cup"), (Str.ofString "load"), (Str.ofString "many"), (Str.ofString "orders"), (Str.ofString "turn"), (Str.ofString "rows"), (Str.ofString "most"), (Str.ofString "told"), (Str.ofString "order"), (Str.ofString "lots"), (Str.ofString "size")], [(Str.ofString "cup")]⟩

/-! 0 script; 1 cup; 2 turn; 3 pairs; 4 bound; 5 load; 6 mixed; 7 at; 8 told; 9 many; 10 flat; -/
def b30_l0 : Ss := (.cons (.ife (.not (.e (.call 29 (.cons (.var 1) .nil)))) (.cons (.ret (.bl false)) .nil) .nil) .nil)
def b30_l1 : Ss := (.cons (.asg (.name 6) (.bin .add (.var 6) (.tup (.cons (.var 7) (.cons (.bin .add (.var 3) (.var 7)) .nil))))) .nil)
def d30 : Def := ⟨(Str.ofString "law"), 1, 11, (.cons (.asg (.name 1) (.call 20 (.cons (.var 0) .nil))) (.cons (.kill [0]) (.cons (.for (.name 2) (.r1 (.int 4)) b30_l0 [2]) (.cons (.par [3, 4] (.cons (.bin .add (.int 1) (.call 21 (.cons (.var 1) (.cons (.int 3) .nil)))) (.cons (.bin .add (.int 10) (.call 21 (.cons (.var 1) (.cons (.int 50) .nil)))) .nil))) (.cons (.asg (.name 5) (.tup (.cons (.var 4) (.cons (.int 7) (.cons (.bin .add (.bin .mul (.tup (.cons (.var 4) .nil)) (.var 3)) (.bin .mul (.tup (.cons (.int 1) .nil)) (.var 3))) (.cons (.tup .nil) .nil)))))) (.cons (.asg (.name 6) (.tup .nil)) (.cons (.kill [4]) (.cons (.for (.name 7) (.r1 (.var 3)) b30_l1 [7]) (.cons (.asg (.name 8) (.tup (.cons (.bc .len (.cons (.call 17 (.cons (.var 5) (.cons (.var 6) .nil))) .nil)) (.cons (.bc .len (.cons (.call 17 (.cons (.var 5) (.cons (.rg1 true (.bin .mul (.int 2) (.var 3))) .nil))) .nil)) (.cons (.ix (.ix (.call 19 (.cons (.var 5) .nil)) (.int 0)) (.int 0)) (.cons (.ix (.ix (.call 19 (.cons (.var 5) .nil)) (.int 1)) (.int 0)) .nil)))))) (.cons (.ife (.not (.e (.call 23 (.cons (.var 8) (.cons (.tup (.cons (.bin .mul (.int 2) (.var 3)) (.cons (.bin .add (.var 3) (.int 1)) (.cons (.bin .add (.var 3) (.int 1)) (.cons (.bin .mul (.int 2) (.var 3)) .nil))))) .nil))))) (.cons (.ret (.bl false)) .nil) .nil) (.cons (.asg (.name 9) (.bin .add (.int 1) (.call 21 (.cons (.var 1) (.cons (.int 7) .nil))))) (.cons (.asg (.name 10) (.tup (.cons (.int 200) (.cons (.int 7) (.cons (.bin .mul (.tup (.cons (.bin .add (.int 1) (.call 21 (.cons (.var 1) (.cons (.int 28) .nil)))) .nil)) (.var 9)) (.cons (.tup .nil) .nil)))))) (.cons (.ret (.call 23 (.cons (.call 17 (.cons (.var 10) (.cons (.call 24 (.cons (.var 1) (.cons (.rg1 false (.var 9)) .nil))) .nil))) (.cons (.tup (.cons (.rg1 true (.var 9)) .nil)) .nil)))) .nil)))))))))))))⟩
def x30 : DX := ⟨d30, ⟨((Str.ofString "law"), none), (Str.ofString "law"), (Str.ofString "law"), defArgs (top 40), defBody (top 40), defScope (top 40), [], []⟩, [(Str.ofString "script"), (Str.ofString "cup"), (Str.ofString "turn"), (Str.ofString "pairs"), (Str.ofString "bound"), (Str.ofString "load"), (Str.ofString "mixed"), (Str.ofString "at"), (Str.ofString "told"), (Str.ofString "many"), (Str.ofString "flat")], [(Str.ofString "script")]⟩

abbrev ds : List Def := [d0, d1, d2, d3, d4, d5, d6, d7, d8, d9, d10, d11, d12, d13, d14, d15, d16, d17, d18, d19, d20, d21, d22, d23, d24, d25, d26, d27, d28, d29, d30]
abbrev xs : List DX := [x0, x1, x2, x3, x4, x5, x6, x7, x8, x9, x10, x11, x12, x13, x14, x15, x16, x17, x18, x19, x20, x21, x22, x23, x24, x25, x26, x27, x28, x29, x30]
abbrev gi : List (Str × Int) := [((Str.ofString "WEIGHT"), 60), ((Str.ofString "BOUND"), 200), ((Str.ofString "PARCELS"), 7), ((Str.ofString "PAIRS"), 12)]
def loose0 : List Str := [(Str.ofString "__name__"), (Str.ofString "OfficeError"), (Str.ofString "InvalidBags"), (Str.ofString "is_whole"), (Str.ofString "is_tuple_of"), (Str.ofString "is_rising"), (Str.ofString "fits_some"), (Str.ofString "WEIGHT"), (Str.ofString "BOUND"), (Str.ofString "PARCELS"), (Str.ofString "PAIRS"), (Str.ofString "fits_pairs"), (Str.ofString "fits_load"), (Str.ofString "need_load"), (Str.ofString "weight_of"), (Str.ofString "may_in"), (Str.ofString "fits_bags"), (Str.ofString "put_in"), (Str.ofString "all_in"), (Str.ofString "few_in"), (Str.ofString "belt_in"), (Str.ofString "orders_of"), (Str.ofString "are_bags"), (Str.ofString "fewest_bags"), (Str.ofString "belt"), (Str.ofString "fits_order"), (Str.ofString "belt_counts"), (Str.ofString "_law_cup"), (Str.ofString "_law_roll"), (Str.ofString "_law_some")]
def loose1 : List Str := [(Str.ofString "_law_same"), (Str.ofString "_law_turned"), (Str.ofString "_law_orders"), (Str.ofString "_law_load"), (Str.ofString "_law_may"), (Str.ofString "_law_belt"), (Str.ofString "_law_right")]
abbrev loose : List Str := loose0 ++ loose1
abbrev R : PySem.W.OpenRow := PySem.W.OpenLaw.row PySem.Challenge.rw_sortingoffice_k20_whole_belts
abbrev LI : Nat := 40
abbrev LX : Nat := 30
-- 0:is_whole 1:is_tuple_of 2:is_rising 3:fits_some 4:fits_pairs 5:fits_load 6:need_load 7:weight_of 8:may_in 9:fits_bags 10:put_in 11:all_in 12:few_in 13:belt_in 14:orders_of 15:are_bags 16:fewest_bags 17:belt 18:fits_order 19:belt_counts 20:_law_cup 21:_law_roll 22:_law_some 23:_law_same 24:_law_turned 25:_law_orders 26:_law_load 27:_law_may 28:_law_belt 29:_law_right 30:law
theorem bx0 : BX x0 := fun _ _ _ F => F.bindsN fun _ _ _ _ _ _ us hl => match us, hl with | [_, _, _], _ => rfl
theorem bx1 : BX x1 := fun _ _ _ F => F.bindsN fun _ _ _ _ _ _ us hl => match us, hl with | [_, _, _], _ => rfl
theorem bx2 : BX x2 := fun _ _ _ F => F.bindsN fun _ _ _ _ _ _ us hl => match us, hl with | [_], _ => rfl
theorem bx3 : BX x3 := fun _ _ _ F => F.bindsN fun _ _ _ _ _ _ us hl => match us, hl with | [_, _], _ => rfl
theorem bx4 : BX x4 := fun _ _ _ F => F.bindsN fun _ _ _ _ _ _ us hl => match us, hl with | [_, _], _ => rfl
theorem bx5 : BX x5 := fun _ _ _ F => F.bindsN fun _ _ _ _ _ _ us hl => match us, hl with | [_], _ => rfl
theorem bx6 : BX x6 := fun _ _ _ F => F.bindsN fun _ _ _ _ _ _ us hl => match us, hl with | [_], _ => rfl
theorem bx7 : BX x7 := fun _ _ _ F => F.bindsN fun _ _ _ _ _ _ us hl => match us, hl with | [_, _], _ => rfl
theorem bx8 : BX x8 := fun _ _ _ F => F.bindsN fun _ _ _ _ _ _ us hl => match us, hl with | [_, _], _ => rfl
theorem bx9 : BX x9 := fun _ _ _ F => F.bindsN fun _ _ _ _ _ _ us hl => match us, hl with | [_, _], _ => rfl
theorem bx10 : BX x10 := fun _ _ _ F => F.bindsN fun _ _ _ _ _ _ us hl => match us, hl with | [_, _, _], _ => rfl
theorem bx11 : BX x11 := fun _ _ _ F => F.bindsN fun _ _ _ _ _ _ us hl => match us, hl with | [_], _ => rfl
theorem bx12 : BX x12 := fun _ _ _ F => F.bindsN fun _ _ _ _ _ _ us hl => match us, hl with | [_], _ => rfl
theorem bx13 : BX x13 := fun _ _ _ F => F.bindsN fun _ _ _ _ _ _ us hl => match us, hl with | [_, _], _ => rfl
theorem bx14 : BX x14 := fun _ _ _ F => F.bindsN fun _ _ _ _ _ _ us hl => match us, hl with | [_], _ => rfl
theorem bx15 : BX x15 := fun _ _ _ F => F.bindsN fun _ _ _ _ _ _ us hl => match us, hl with | [_, _], _ => rfl
theorem bx16 : BX x16 := fun _ _ _ F => F.bindsN fun _ _ _ _ _ _ us hl => match us, hl with | [_], _ => rfl
theorem bx17 : BX x17 := fun _ _ _ F => F.bindsN fun _ _ _ _ _ _ us hl => match us, hl with | [_, _], _ => rfl
theorem bx18 : BX x18 := fun _ _ _ F => F.bindsN fun _ _ _ _ _ _ us hl => match us, hl with | [_, _], _ => rfl
theorem bx19 : BX x19 := fun _ _ _ F => F.bindsN fun _ _ _ _ _ _ us hl => match us, hl with | [_], _ => rfl
theorem bx20 : BX x20 := fun _ _ _ F => F.bindsN fun _ _ _ _ _ _ us hl => match us, hl with | [_], _ => rfl
theorem bx21 : BX x21 := fun _ _ _ F => F.bindsN fun _ _ _ _ _ _ us hl => match us, hl with | [_, _], _ => rfl
theorem bx22 : BX x22 := fun _ _ _ F => F.bindsN fun _ _ _ _ _ _ us hl => match us, hl with | [_, _], _ => rfl
theorem bx23 : BX x23 := fun _ _ _ F => F.bindsN fun _ _ _ _ _ _ us hl => match us, hl with | [_, _], _ => rfl
theorem bx24 : BX x24 := fun _ _ _ F => F.bindsN fun _ _ _ _ _ _ us hl => match us, hl with | [_, _], _ => rfl
theorem bx25 : BX x25 := fun _ _ _ F => F.bindsN fun _ _ _ _ _ _ us hl => match us, hl with | [_], _ => rfl
theorem bx26 : BX x26 := fun _ _ _ F => F.bindsN fun _ _ _ _ _ _ us hl => match us, hl with | [_, _], _ => rfl
theorem bx27 : BX x27 := fun _ _ _ F => F.bindsN fun _ _ _ _ _ _ us hl => match us, hl with | [_, _], _ => rfl
theorem bx28 : BX x28 := fun _ _ _ F => F.bindsN fun _ _ _ _ _ _ us hl => match us, hl with | [_, _], _ => rfl
theorem bx29 : BX x29 := fun _ _ _ F => F.bindsN fun _ _ _ _ _ _ us hl => match us, hl with | [_], _ => rfl
theorem bx30 : BX x30 := fun _ _ _ F => F.bindsN fun _ _ _ _ _ _ us hl => match us, hl with | [_], _ => rfl
theorem bxs : BXs xs := ⟨bx0, bx1, bx2, bx3, bx4, bx5, bx6, bx7, bx8, bx9, bx10, bx11, bx12, bx13, bx14, bx15, bx16, bx17, bx18, bx19, bx20, bx21, bx22, bx23, bx24, bx25, bx26, bx27, bx28, bx29, bx30, trivial⟩
end Lw

namespace Lw
open PySem PySem.Spec PyProof.Rows L2 Pv
theorem okAll : xs.all (okX ds gi) = true := by decide +kernel
theorem dsXs : ds = xs.map (·.d) := rfl
end Lw

/-! cup, roll, some, same. -/
namespace Lw
open PySem PySem.Spec Pv
def Cup (st : Sto) : Prop := ∃ a b : Int, 0 ≤ a ∧ 0 ≤ b ∧ b ≤ 4294967296 ∧ st = [.lst [.int a, .int b]]
theorem wS_setC {Φ : Nat → List PV → M PV} {c i e : E} {env : En} {st : Sto} {Q : Fl → Sto → Prop} : wS (evS Φ (.setC c i e) env st) Q = wM (evE Φ e env) (fun z st1 => wM (evE Φ c env) (fun x st2 => wM (evE Φ i env) (fun y st3 => wS (match x, y with
    | .cel k, .int j => match st3[k]? with
      | some (.lst xs) => match setL xs j z with
        | some ys => .ok (.nx env) (st3.set k (.lst ys))
        | none => .bad
      | _ => .bad
    | _, _ => .bad) Q) st2) st1) st := by
  simp only [evS, wS_lift]
  all_goals rfl
theorem ok_roll (n : Nat) (k : Int) (h1 : 1 ≤ k) (h2 : k ≤ 1000) (st : Sto) (c : Cup st) : wM (callN ds (n + 1) 21 [.cel 0, .int k]) (fun v st' => ∃ x, v = .int x ∧ 0 ≤ x ∧ x < k ∧ Cup st') st := by
  obtain ⟨a, b, ha, hb, hb2, rfl⟩ := c
  rw [wM_call (d := d21) rfl rfl]
  by_cases hp : 0 < a
  · simp [d21, enter, wS_cons, wS_nil, aft, finQ, wS_lift, wS_ok, wM_ret, wM_bnd, wM_nox, wM_some, opt_some, bnd_ret, bnd_assoc, ix_tup, ix_lst, evS, evE, evBo, evBoT, evT, evTs, evEs, evOe, evI, look, put, wipeE, rdV, rdO, atL, bindG_name, bindG_tup, bindGs_nil, bindGs_cons, truthP, seqOf, range1, range2, zipP, kills, wS_setC, setL, wM_ix, ixS_cel, cmpP, hp, bfP, binP, show 0 < k by omega, show k < 1073741824 by omega]
    exact ⟨Int.emod_nonneg _ (by omega), Int.emod_lt_of_pos _ (by omega), a / k, b, Int.ediv_nonneg ha (by omega), hb, hb2, rfl⟩
  · have s1 : smallB b = true := smallI hb hb2
    have q0 := Int.emod_nonneg (b * 30881 + 7877) (show (2147483399 : Int) ≠ 0 by omega)
    have q1 := Int.emod_lt_of_pos (b * 30881 + 7877) (show (0 : Int) < 2147483399 by omega)
    have s2 : smallB ((b * 30881 + 7877) % 2147483399) = true := smallI q0 (by omega)
    simp [d21, enter, wS_cons, wS_nil, aft, finQ, wS_lift, wS_ok, wM_ret, wM_bnd, wM_nox, wM_some, opt_some, bnd_ret, bnd_assoc, ix_tup, ix_lst, evS, evE, evBo, evBoT, evT, evTs, evEs, evOe, evI, look, put, wipeE, rdV, rdO, atL, bindG_name, bindG_tup, bindGs_nil, bindGs_cons, truthP, seqOf, range1, range2, zipP, kills, wS_setC, setL, wM_ix, ixS_cel, cmpP, hp, bfP, binP, s1, s2, show 0 < k by omega]
    exact ⟨Int.emod_nonneg _ (by omega), Int.emod_lt_of_pos _ (by omega), a, _, ha, q0, by omega, rfl⟩
theorem ok_some (n : Nat) (xs : List PV) (h1 : 1 ≤ xs.length) (h2 : xs.length ≤ 1000) (st : Sto) (c : Cup st) : wM (callN ds (n + 2) 22 [.cel 0, .lst xs]) (fun v st' => v ∈ xs ∧ Cup st') st := by
  rw [wM_call (d := d22) rfl rfl]
  simp [d22, enter, wS_cons, wS_nil, aft, finQ, wS_lift, wS_ok, wM_ret, wM_bnd, wM_nox, wM_some, opt_some, bnd_ret, bnd_assoc, ix_tup, ix_lst, evS, evE, evBo, evBoT, evT, evTs, evEs, evOe, evI, look, put, wipeE, rdV, rdO, atL, bindG_name, bindG_tup, bindGs_nil, bindGs_cons, truthP, seqOf, range1, range2, zipP, kills, bfP]
  refine wM_mono (ok_roll n xs.length (by omega) (by omega) st c) ?_
  rintro v st' ⟨x, rfl, hx0, hx1, c'⟩
  have hl : x.toNat < xs.length := by omega
  simp [wM_ix, ixS, ixP, atL, hx0, hl, wM_some]
  exact c'
def plB : Nat → PV → Bool
  | _, .non => true
  | _, .bl _ => true
  | _, .int _ => true
  | n + 1, .tup xs => decide (xs.length ≤ 1000) && xs.all (plB n)
  | _, _ => false
theorem ok_same : ∀ (d n : Nat) (v : PV) (st : Sto), plB d v = true → callN ds (n + d + 1) 23 [v, v] st = .ok (.bl true) st := by
  have leaf : ∀ (n : Nat) (v : PV) (st : Sto), (v = .non ∨ (∃ b, v = .bl b) ∨ ∃ i, v = .int i) → callN ds (n + 1) 23 [v, v] st = .ok (.bl true) st := fun n v st h => by
    apply wM_eq
    rw [wM_call (d := d23) rfl rfl]
    rcases h with rfl | ⟨b, rfl⟩ | ⟨i, rfl⟩
    · simp [d23, enter, wS_cons, wS_nil, aft, finQ, wS_lift, wS_ok, wM_ret, wM_bnd, wM_nox, wM_some, opt_some, bnd_ret, bnd_assoc, ix_tup, ix_lst, evS, evE, evBo, evBoT, evT, evTs, evEs, evOe, evI, look, put, wipeE, rdV, rdO, atL, bindG_name, bindG_tup, bindGs_nil, bindGs_cons, truthP, seqOf, range1, range2, zipP, kills, isiP, cmpP, isP]
    · cases b <;> simp [d23, enter, wS_cons, wS_nil, aft, finQ, wS_lift, wS_ok, wM_ret, wM_bnd, wM_nox, wM_some, opt_some, bnd_ret, bnd_assoc, ix_tup, ix_lst, evS, evE, evBo, evBoT, evT, evTs, evEs, evOe, evI, look, put, wipeE, rdV, rdO, atL, bindG_name, bindG_tup, bindGs_nil, bindGs_cons, truthP, seqOf, range1, range2, zipP, kills, isiP, cmpP, isP]
    · simp [d23, enter, wS_cons, wS_nil, aft, finQ, wS_lift, wS_ok, wM_ret, wM_bnd, wM_nox, wM_some, opt_some, bnd_ret, bnd_assoc, ix_tup, ix_lst, evS, evE, evBo, evBoT, evT, evTs, evEs, evOe, evI, look, put, wipeE, rdV, rdO, atL, bindG_name, bindG_tup, bindGs_nil, bindGs_cons, truthP, seqOf, range1, range2, zipP, kills, isiP, cmpP, isP, bfP, eqP_int]
  intro d
  induction d with
  | zero =>
    intro n v st h
    refine leaf n v st ?_
    cases v <;> simp [plB] at h ⊢
  | succ d ih =>
    intro n v st h
    cases v with
    | non => exact leaf _ _ _ (.inl rfl)
    | bl b => exact leaf _ _ _ (.inr (.inl ⟨b, rfl⟩))
    | int i => exact leaf _ _ _ (.inr (.inr ⟨i, rfl⟩))
    | tup xs =>
      simp only [plB, Bool.and_eq_true, decide_eq_true_eq, List.all_eq_true] at h
      obtain ⟨hl, ha⟩ := h
      apply wM_eq
      rw [wM_call (d := d23) rfl rfl]
      have r1 : range1 (.int (xs.length : Int)) = some ((List.range xs.length).map fun (i : Nat) => PV.int (i : Int)) := by
        simp only [range1]
        rw [if_pos (by omega), Int.toNat_natCast]
      simp [d23, enter, wS_cons, wS_nil, aft, finQ, wS_lift, wS_ok, wM_ret, wM_bnd, wM_nox, wM_some, opt_some, bnd_ret, bnd_assoc, ix_tup, ix_lst, evS, evE, evBo, evBoT, evT, evTs, evEs, evOe, evI, look, put, wipeE, rdV, rdO, atL, bindG_name, bindG_tup, bindGs_nil, bindGs_cons, truthP, seqOf, kills, isiP, cmpP, bfP, eqP_int, r1]
      rw [wM_of (compL_pure (fun _ => some (.bl true)) fun x hx => ?_)]
      · simp only [bls_all fun _ => true, Option.map_some, opt_some, wM_ret]
        simp [wM_ret]
      · simp at hx
        obtain ⟨i, hi, rfl⟩ := hx
        have q : callN ds (n + (d + 1)) 23 [xs[i], xs[i]] st = .ok (.bl true) st := ih n xs[i] st (ha _ (List.getElem_mem hi))
        simp [M.bnd, M.ret, enter, wS_cons, wS_nil, aft, finQ, wS_lift, wS_ok, wM_ret, wM_bnd, wM_nox, wM_some, opt_some, bnd_ret, bnd_assoc, ix_tup, ix_lst, evS, evE, evBo, evBoT, evT, evTs, evEs, evOe, evI, look, put, wipeE, rdV, rdO, atL, bindG_name, bindG_tup, bindGs_nil, bindGs_cons, truthP, seqOf, kills, hi, q]
    | str _ => simp [plB] at h
    | lst _ => simp [plB] at h
    | dct _ => simp [plB] at h
    | set _ => simp [plB] at h
    | cel _ => simp [plB] at h
    | scr _ => simp [plB] at h
    | exc _ _ => simp [plB] at h
    | glb _ => simp [plB] at h
theorem ok_cup (n : Nat) (ns : List Int) (hl : ns.length ≤ 63) : wM (callN ds (n + 1) 20 [.scr ns]) (fun v st' => v = .cel 0 ∧ Cup st') [] := by
  rw [wM_call (d := d20) rfl rfl]
  have hx : ∃ x : Int, (ns.map PV.int ++ [PV.int 0])[0]? = some (.int x) := by
    cases ns with
    | nil => exact ⟨0, rfl⟩
    | cons a _ => exact ⟨a, rfl⟩
  obtain ⟨x, hx⟩ := hx
  have s349 : smallB 311 = true := by decide
  have hp : ∃ y : Int, 0 ≤ y ∧ (if x < 0 then -x else x) = y := ⟨_, by split <;> omega, rfl⟩
  obtain ⟨y, hy, ey⟩ := hp
  have q0 := Int.emod_nonneg (y * 311 + 4019) (show (2077503319 : Int) ≠ 0 by omega)
  have q1 := Int.emod_lt_of_pos (y * 311 + 4019) (show (0 : Int) < 2077503319 by omega)
  have hsm : smallB 10 = true := by decide
  have hat : atL (ns.map PV.int ++ [PV.int 0]) 0 = some (.int x) := by
    unfold atL
    rw [if_pos (by omega)]
    exact hx
  by_cases hc : (1000000000000000000 : Int) ≤ y
  · simp [d20, enter, wS_cons, wS_nil, aft, finQ, wS_lift, wS_ok, wM_ret, wM_bnd, wM_some, opt_some, bnd_ret, bnd_assoc, ix_lst, evS, evE, evT, evEs, look, put, rdV, bindG_name, truthP, bfP, binP, show ns.length + 1 ≤ 1000000 by omega, hat, ey, cmpP, hsm, hc, s349, wM_alloc]
    exact ⟨_, _, Int.ediv_nonneg hy (by omega), by omega, by omega, rfl⟩
  · simp [d20, enter, wS_cons, wS_nil, aft, finQ, wS_lift, wS_ok, wM_ret, wM_bnd, wM_some, opt_some, bnd_ret, bnd_assoc, ix_lst, evS, evE, evT, evEs, look, put, rdV, bindG_name, truthP, bfP, binP, show ns.length + 1 ≤ 1000000 by omega, hat, ey, cmpP, hsm, hc, s349, wM_alloc]
    exact ⟨_, _, by omega, by omega, by omega, rfl⟩
end Lw

/-! D1: lots, orders. -/
namespace Lw
open PySem PySem.Spec Pv
theorem ok_whole (n : Nat) (i lo hi : Int) (st : Sto) : callN ds (n + 1) 0 [.int i, .int lo, .int hi] st = .ok (.bl (decide (lo ≤ i) && decide (i ≤ hi))) st := by
  by_cases h1 : lo ≤ i <;> by_cases h2 : i ≤ hi <;>
  simp [callN, ds, runDef, d0, enter, evSs, evS, evE, evBo, evEs, lift, M.bnd, M.ret, M.opt, look, rdV, isiP, cmpP, h1, h2]
theorem ok_tupOf (n : Nat) (xs : List PV) (lo hi : Int) (st : Sto) : callN ds (n + 1) 1 [.tup xs, .int lo, .int hi] st = .ok (.bl (decide (lo ≤ xs.length) && decide ((xs.length : Int) ≤ hi))) st := by
  by_cases h1 : lo ≤ xs.length <;> by_cases h2 : (xs.length : Int) ≤ hi <;>
  simp [callN, ds, runDef, d1, enter, evSs, evS, evE, evBo, evEs, lift, M.bnd, M.ret, M.opt, look, rdV, isiP, cmpP, bfP, h1, h2]
theorem w_whole {n : Nat} {i lo hi : Int} {st : Sto} {Q : PV → Sto → Prop} : wM (callN ds (n + 1) 0 [.int i, .int lo, .int hi]) Q st = Q (.bl (decide (lo ≤ i) && decide (i ≤ hi))) st := wM_of (ok_whole ..)
theorem w_tupOf {n : Nat} {xs : List PV} {lo hi : Int} {st : Sto} {Q : PV → Sto → Prop} : wM (callN ds (n + 1) 1 [.tup xs, .int lo, .int hi]) Q st = Q (.bl (decide (lo ≤ xs.length) && decide ((xs.length : Int) ≤ hi))) st := wM_of (ok_tupOf ..)
def CV (cs : List Int) : PV := .tup (cs.map .int)
def ltL : List Int → List Int → Bool
  | [], [] => false
  | [], _ :: _ => true
  | _ :: _, [] => false
  | x :: xs, y :: ys => if x = y then ltL xs ys else decide (x < y)
def leL (a b : List Int) : Bool := !ltL b a
theorem ltL_irr : ∀ a : List Int, ltL a a = false
  | [] => rfl
  | x :: xs => by simp [ltL, ltL_irr xs]
theorem ltL_trans : ∀ a b c : List Int, ltL a b = true → ltL b c = true → ltL a c = true
  | [], [], _, h, _ => by simp [ltL] at h
  | [], _ :: _, [], _, h => by simp [ltL] at h
  | [], _ :: _, _ :: _, _, _ => rfl
  | _ :: _, [], _, h, _ => by simp [ltL] at h
  | _ :: _, _ :: _, [], _, h => by simp [ltL] at h
  | x :: xs, y :: ys, z :: zs, h1, h2 => by
    simp only [ltL] at h1 h2 ⊢
    by_cases e1 : x = y
    · subst e1
      rw [if_pos rfl] at h1
      by_cases e2 : x = z
      · subst e2
        rw [if_pos rfl] at h2 ⊢
        exact ltL_trans xs ys zs h1 h2
      · rw [if_neg e2] at h2 ⊢
        exact h2
    · rw [if_neg e1, decide_eq_true_eq] at h1
      by_cases e2 : y = z
      · subst e2
        rw [if_neg e1, decide_eq_true_eq]
        exact h1
      · rw [if_neg e2, decide_eq_true_eq] at h2
        rw [if_neg (by omega), decide_eq_true_eq]
        omega
theorem ltL_tot : ∀ a b : List Int, a ≠ b → ltL a b = false → ltL b a = true
  | [], [], h, _ => absurd rfl h
  | [], _ :: _, _, h => by simp [ltL] at h
  | _ :: _, [], _, _ => rfl
  | x :: xs, y :: ys, h1, h2 => by
    simp only [ltL] at h2 ⊢
    by_cases e : x = y
    · subst e
      rw [if_pos rfl] at h2 ⊢
      exact ltL_tot xs ys (fun z => h1 (by rw [z])) h2
    · rw [if_neg e, decide_eq_false_iff_not] at h2
      rw [if_neg (Ne.symm e), decide_eq_true_eq]
      omega
theorem ltBs_int : ∀ xs ys : List Int, ltBs (xs.map .int) (ys.map .int) = ltL xs ys
  | [], [] => by simp [ltBs, ltL]
  | [], _ :: _ => by simp [ltBs, ltL]
  | _ :: _, [] => by simp [ltBs, ltL]
  | x :: xs, y :: ys => by
    simp only [List.map_cons, ltBs, ltL, eqB, ltB, ltBs_int xs ys, beq_iff_eq]
theorem ltB_CV (a b : List Int) : ltB (CV a) (CV b) = ltL a b := by
  unfold CV
  rw [ltB, ltBs_int]
theorem alIs_int : ∀ xs ys : List Int, alIs (xs.map .int) (ys.map .int) = true
  | [], _ => by simp [alIs]
  | _ :: _, [] => by simp [alIs]
  | x :: xs, y :: ys => by simp [alIs, alI, alIs_int xs ys]
theorem alI_CV (a b : List Int) : alI (CV a) (CV b) = true := by
  unfold CV
  rw [alI, alIs_int]
theorem srt_CV (ks : List (List Int)) : (ks.map CV).mergeSort leB = (ks.mergeSort leL).map CV :=
  (List.map_mergeSort fun a _ b _ => by unfold leL leB; rw [ltB_CV]).symm
theorem leL_trans (a b c : List Int) (h1 : leL a b = true) (h2 : leL b c = true) : leL a c = true := by
  unfold leL at *
  rw [Bool.not_eq_true'] at *
  by_cases e1 : a = b
  · subst e1; exact h2
  by_cases e2 : b = c
  · subst e2; exact h1
  have k1 := ltL_tot b a (Ne.symm e1) h1
  have k2 := ltL_tot c b (Ne.symm e2) h2
  rw [Bool.eq_false_iff]
  intro h
  have := ltL_trans _ _ _ (ltL_trans _ _ _ h k1) k2
  rw [ltL_irr] at this
  cases this
theorem leL_tot (a b : List Int) : (leL a b || leL b a) = true := by
  unfold leL
  by_cases e : a = b
  · subst e; rw [ltL_irr]; rfl
  cases h : ltL b a with
  | false => rfl
  | true =>
    cases h2 : ltL a b with
    | false => rfl
    | true =>
      have := ltL_trans _ _ _ h h2
      rw [ltL_irr] at this
      cases this
theorem sort_strict {ks : List (List Int)} (h : ks.Nodup) : (ks.mergeSort leL).Pairwise fun a b => ltL a b = true := by
  have h1 := List.pairwise_mergeSort (le := leL) leL_trans leL_tot ks
  have h2 : (ks.mergeSort leL).Pairwise fun a b => a ≠ b := (List.mergeSort_perm ks leL).nodup_iff.mpr h
  refine (h1.and h2).imp fun {a b} k => ?_
  obtain ⟨k1, k2⟩ := k
  unfold leL at k1
  exact ltL_tot b a (Ne.symm k2) (by simpa using k1)
theorem strict_nodup {ks : List (List Int)} (h : ks.Pairwise fun a b => ltL a b = true) : ks.Nodup :=
  h.imp fun {a b} k e => by
    subst e
    rw [ltL_irr] at k
    cases k
/-! least ones -/
def mn : List Int → Option Int
  | [] => none
  | x :: r => some (minI x r)
theorem minI_mem : ∀ (r : List Int) (x : Int), minI x r ∈ x :: r
  | [], x => by simp [minI]
  | y :: r, x => by
    unfold minI
    have := minI_mem r (if y < x then y else x)
    rcases List.mem_cons.mp this with h | h
    · rw [h]; split <;> simp
    · exact List.mem_cons_of_mem _ (List.mem_cons_of_mem _ h)
theorem minI_le : ∀ (r : List Int) (x y : Int), y ∈ x :: r → minI x r ≤ y
  | [], x, y, h => by
    rw [List.mem_singleton] at h
    subst h
    exact Int.le_refl _
  | z :: r, x, y, h => by
    unfold minI
    have h0 := minI_le r (if z < x then z else x) (if z < x then z else x) List.mem_cons_self
    rcases List.mem_cons.mp h with h | h
    · subst h
      split at h0 <;> rename_i k <;> simp only [k, if_true, if_false] <;> omega
    · rcases List.mem_cons.mp h with h | h
      · subst h
        split at h0 <;> rename_i k <;> simp only [k, if_true, if_false] <;> omega
      · exact minI_le r _ y (List.mem_cons_of_mem _ h)
theorem mn_iff {l : List Int} {m : Int} : mn l = some m ↔ m ∈ l ∧ ∀ y ∈ l, m ≤ y := by
  cases l with
  | nil => simp [mn]
  | cons x r =>
    simp only [mn, Option.some.injEq]
    constructor
    · rintro rfl
      exact ⟨minI_mem r x, minI_le r x⟩
    · rintro ⟨h1, h2⟩
      exact Int.le_antisymm (minI_le r x m h1) (h2 _ (minI_mem r x))
theorem mn_none {l : List Int} : mn l = none ↔ l = [] := by
  cases l <;> simp [mn]
theorem mn_set {l l' : List Int} (h : ∀ x, x ∈ l ↔ x ∈ l') : mn l = mn l' := by
  cases e : mn l with
  | none =>
    rw [mn_none] at e
    subst e
    have : l' = [] := List.eq_nil_iff_forall_not_mem.mpr fun x hx => by simpa using (h x).mpr hx
    rw [this]; rfl
  | some m =>
    rw [mn_iff] at e
    exact (mn_iff.mpr ⟨(h m).mp e.1, fun y hy => e.2 y ((h y).mpr hy)⟩).symm
def subs : Nat → List (List Int)
  | 0 => [[]]
  | n + 1 => subs n ++ (subs n).map fun s => s ++ [(n : Int)]
/-- ascending places below a bound -/
def Asc (n : Nat) (s : List Int) : Prop := s.Pairwise (· < ·) ∧ ∀ x ∈ s, 0 ≤ x ∧ x < n
theorem subs_mem : ∀ (n : Nat) (s : List Int), s ∈ subs n ↔ Asc n s
  | 0, s => by
    unfold subs Asc
    rw [List.mem_singleton]
    constructor
    · rintro rfl; exact ⟨List.Pairwise.nil, by simp⟩
    · rintro ⟨_, h⟩
      cases s with
      | nil => rfl
      | cons a r => have := h a List.mem_cons_self; omega
  | n + 1, s => by
    unfold subs
    rw [List.mem_append, List.mem_map]
    constructor
    · rintro (h | ⟨u, hu, rfl⟩)
      · obtain ⟨h1, h2⟩ := (subs_mem n s).mp h
        exact ⟨h1, fun x hx => by have := h2 x hx; omega⟩
      · obtain ⟨h1, h2⟩ := (subs_mem n u).mp hu
        refine ⟨List.pairwise_append.mpr ⟨h1, List.pairwise_singleton _ _, fun a ha b hb => ?_⟩, fun x hx => ?_⟩
        · rw [List.mem_singleton.mp hb]; exact (h2 a ha).2
        · rcases List.mem_append.mp hx with h | h
          · have := h2 x h; omega
          · rw [List.mem_singleton.mp h]; omega
    · rintro ⟨h1, h2⟩
      by_cases hn : (n : Int) ∈ s
      · right
        obtain ⟨u, v, rfl⟩ := List.append_of_mem hn
        have hv : v = [] := by
          cases v with
          | nil => rfl
          | cons a r =>
            have p := List.pairwise_append.mp h1
            have := (List.pairwise_cons.mp p.2.1).1 a List.mem_cons_self
            have := h2 a (List.mem_append_right _ (List.mem_cons_of_mem _ List.mem_cons_self))
            omega
        subst hv
        have p := List.pairwise_append.mp h1
        refine ⟨u, (subs_mem n u).mpr ⟨p.1, fun x hx => ?_⟩, rfl⟩
        have := p.2.2 x hx n List.mem_cons_self
        have := h2 x (List.mem_append_left _ hx)
        omega
      · left
        refine (subs_mem n s).mpr ⟨h1, fun x hx => ?_⟩
        have := h2 x hx
        have : x ≠ n := fun e => hn (e ▸ hx)
        omega
theorem subs_len : ∀ n : Nat, (subs n).length = 2 ^ n
  | 0 => rfl
  | n + 1 => by
    unfold subs
    rw [List.length_append, List.length_map, subs_len n, Nat.pow_succ]
    omega
def rI (n : Nat) : List Int := (List.range n).map fun (i : Nat) => (i : Int)
theorem rI_asc (n : Nat) : Asc n (rI n) := by
  refine ⟨?_, fun x hx => ?_⟩
  · unfold rI
    rw [List.pairwise_map]
    exact List.pairwise_lt_range.imp fun h => by omega
  · obtain ⟨i, hi, rfl⟩ := List.mem_map.mp hx
    have := List.mem_range.mp hi
    omega
theorem rI_len (n : Nat) : (rI n).length = n := by unfold rI; rw [List.length_map, List.length_range]
theorem asc_sub {n : Nat} {s u : List Int} (h : Asc n s) (k : u.Sublist s) : Asc n u := ⟨h.1.sublist k, fun x hx => h.2 x (k.subset hx)⟩
theorem asc_nodup {n : Nat} {s : List Int} (h : Asc n s) : s.Nodup := h.1.imp fun h => by omega
theorem asc_len {n : Nat} {s : List Int} (h : Asc n s) : s.length ≤ n := by
  have := (asc_nodup h).length_le_of_subset (l₂ := rI n) fun x hx => by
    obtain ⟨h1, h2⟩ := h.2 x hx
    exact List.mem_map.mpr ⟨x.toNat, List.mem_range.mpr (by omega), by omega⟩
  rwa [rI_len] at this
theorem asc_full {n : Nat} {s : List Int} (h : Asc n s) (hl : n ≤ s.length) : s = rI n := by
  have sub : ∀ x ∈ s, x ∈ rI n := fun x hx => by
    obtain ⟨h1, h2⟩ := h.2 x hx
    exact List.mem_map.mpr ⟨x.toNat, List.mem_range.mpr (by omega), by omega⟩
  have p : s.Perm (rI n) := by
    refine (List.perm_ext_iff_of_nodup (asc_nodup h) (asc_nodup (rI_asc n))).mpr fun x => ⟨sub x, fun hx => ?_⟩
    refine Classical.byContradiction fun hn => ?_
    have := (List.nodup_cons.mpr ⟨hn, asc_nodup h⟩).length_le_of_subset (l₂ := rI n) fun y hy => by
      rcases List.mem_cons.mp hy with rfl | hy
      · exact hx
      · exact sub y hy
    rw [rI_len, List.length_cons] at this
    omega
  exact p.eq_of_pairwise (fun a b _ _ h1 h2 => by omega) h.1 (rI_asc n).1
def upB : List (List Int) → Bool
  | a :: b :: r => ltL a b && upB (b :: r)
  | _ => true
theorem up_of : ∀ l : List (List Int), upB l = true → l.Pairwise fun a b => ltL a b = true
  | [], _ => List.Pairwise.nil
  | [_], _ => List.pairwise_singleton _ _
  | a :: b :: r, h => by
    unfold upB at h
    rw [Bool.and_eq_true] at h
    have ih := up_of (b :: r) h.2
    refine List.pairwise_cons.mpr ⟨fun c hc => ?_, ih⟩
    rcases List.mem_cons.mp hc with rfl | hc
    · exact h.1
    · exact ltL_trans _ _ _ h.1 ((List.pairwise_cons.mp ih).1 c hc)
end Lw

/-! D2: loads. -/
namespace Lw
open PySem PySem.Spec Pv
/-! the least of pairs -/
def ltK (f : List Int → Int) (a b : List Int) : Bool := decide (f a < f b) || (decide (f a = f b) && ltL a b)
theorem ltK_irr (f : List Int → Int) (a : List Int) : ltK f a a = false := by simp [ltK, ltL_irr]
theorem ltK_trans {f : List Int → Int} {a b c : List Int} (h1 : ltK f a b = true) (h2 : ltK f b c = true) : ltK f a c = true := by
  simp only [ltK, Bool.or_eq_true, Bool.and_eq_true, decide_eq_true_eq] at *
  rcases h1 with h1 | ⟨h1, k1⟩ <;> rcases h2 with h2 | ⟨h2, k2⟩
  · left; omega
  · left; omega
  · left; omega
  · right; exact ⟨by omega, ltL_trans _ _ _ k1 k2⟩
theorem ltK_tot {f : List Int → Int} {a b : List Int} (h : a ≠ b) (h1 : ltK f a b = false) : ltK f b a = true := by
  simp only [ltK, Bool.or_eq_false_iff, Bool.or_eq_true, Bool.and_eq_true, decide_eq_true_eq, decide_eq_false_iff_not] at *
  obtain ⟨h1, h2⟩ := h1
  by_cases e : f a = f b
  · right
    refine ⟨e.symm, ltL_tot a b h ?_⟩
    rw [decide_eq_true e, Bool.true_and] at h2
    exact h2
  · left; omega
def minK (f : List Int → Int) (x : List Int) (l : List (List Int)) : List Int := l.foldl (fun a y => if ltK f y a = true then y else a) x
theorem minK_ok (f : List Int → Int) : ∀ (l : List (List Int)) (x : List Int), minK f x l ∈ x :: l ∧ ∀ y ∈ x :: l, y = minK f x l ∨ ltK f (minK f x l) y = true
  | [], x => ⟨by simp [minK], fun y hy => .inl (List.mem_singleton.mp hy)⟩
  | z :: l, x => by
    obtain ⟨h1, h2⟩ := minK_ok f l (if ltK f z x = true then z else x)
    have e : minK f x (z :: l) = minK f (if ltK f z x = true then z else x) l := rfl
    rw [e]
    generalize minK f (if ltK f z x = true then z else x) l = m at h1 h2 ⊢
    have hc : ∀ u, u = (if ltK f z x = true then z else x) → u = m ∨ ltK f m u = true := fun u hu => h2 u (hu ▸ List.mem_cons_self)
    by_cases hz : ltK f z x = true
    · rw [if_pos hz] at h1 h2 hc
      refine ⟨?_, fun y hy => ?_⟩
      · rcases List.mem_cons.mp h1 with h | h
        · rw [h]; simp
        · exact List.mem_cons_of_mem _ (List.mem_cons_of_mem _ h)
      · rcases List.mem_cons.mp hy with rfl | hy
        · right
          rcases hc z rfl with h | h
          · rw [← h]; exact hz
          · exact ltK_trans h hz
        · exact h2 y hy
    · rw [if_neg hz] at h1 h2 hc
      refine ⟨?_, fun y hy => ?_⟩
      · rcases List.mem_cons.mp h1 with h | h
        · rw [h]; simp
        · exact List.mem_cons_of_mem _ (List.mem_cons_of_mem _ h)
      · rcases List.mem_cons.mp hy with rfl | hy
        · exact hc y rfl
        · rcases List.mem_cons.mp hy with rfl | hy
          · by_cases e : y = x
            · subst e; exact hc y rfl
            · have := ltK_tot e (Bool.eq_false_iff.mpr hz)
              right
              rcases hc x rfl with h | h
              · rw [← h]; exact this
              · exact ltK_trans h this
          · exact h2 y (List.mem_cons_of_mem _ hy)
def mnK (f : List Int → Int) : List (List Int) → Option (List Int)
  | [] => none
  | x :: l => some (minK f x l)
theorem mnK_mem {f : List Int → Int} {l : List (List Int)} {m : List Int} (h : mnK f l = some m) : m ∈ l := by
  cases l with
  | nil => cases h
  | cons x l =>
    simp only [mnK, Option.some.injEq] at h
    rw [← h]
    exact (minK_ok f l x).1
theorem mnK_some {f : List Int → Int} {l : List (List Int)} (h : l ≠ []) : ∃ m, mnK f l = some m := by
  cases l with
  | nil => exact absurd rfl h
  | cons x l => exact ⟨_, rfl⟩
/-! loads -/
def wt (ws : List Int) (a : Int) : Int := ws.getD a.toNat 0
def sumW (ws lot : List Int) : Int := sumI (lot.map (wt ws))
def hasP (lot q : List Int) : Bool := decide (q.getD 0 0 ∈ lot) && decide (q.getD 1 0 ∈ lot)
def may (b p : Int) (ws : List Int) (prs : List (List Int)) (lot : List Int) : Bool := decide (sumW ws lot ≤ b) && decide ((lot.length : Int) ≤ p) && !(prs.any (hasP lot))
structure LOk (b p : Int) (ws : List Int) (prs : List (List Int)) : Prop where
  b1 : 1 ≤ b
  b2 : b ≤ 200
  p1 : 1 ≤ p
  p7 : p ≤ 7
  w1 : 1 ≤ ws.length
  w7 : ws.length ≤ 7
  w : ∀ x ∈ ws, 1 ≤ x ∧ x ≤ 60 ∧ x ≤ b
  q12 : prs.length ≤ 12
  q : ∀ q ∈ prs, ∃ i j, q = [i, j] ∧ 0 ≤ i ∧ i < j ∧ j < ws.length
  up : prs.Pairwise fun a b => ltL a b = true
theorem sumI_perm {s t : List Int} (h : s.Perm t) : sumI s = sumI t := by
  induction h with
  | nil => rfl
  | cons x _ ih => simp only [sumI, ih]
  | swap x y l => simp only [sumI]; omega
  | trans _ _ i1 i2 => rw [i1, i2]
theorem any_congr' {α : Type} {f g : α → Bool} : ∀ {l : List α}, (∀ x ∈ l, f x = g x) → l.any f = l.any g
  | [], _ => rfl
  | x :: l, h => by
    rw [List.any_cons, List.any_cons, h x List.mem_cons_self, any_congr' fun y hy => h y (List.mem_cons_of_mem _ hy)]
theorem may_perm {b p : Int} {ws : List Int} {prs : List (List Int)} {s t : List Int} (h : s.Perm t) : may b p ws prs s = may b p ws prs t := by
  unfold may sumW
  rw [sumI_perm (h.map _), h.length_eq]
  congr 2
  refine any_congr' fun q _ => ?_
  unfold hasP
  have e : ∀ x, decide (x ∈ s) = decide (x ∈ t) := fun x => decide_eq_decide.mpr h.mem_iff
  rw [e, e]
theorem sub_of_asc : ∀ {s t : List Int}, s.Pairwise (· < ·) → t.Pairwise (· < ·) → (∀ x ∈ s, x ∈ t) → s.Sublist t
  | [], t, _, _, _ => List.nil_sublist t
  | x :: s, [], _, _, h => by have := h x List.mem_cons_self; cases this
  | x :: s, y :: t, h1, h2, h => by
    have p1 := List.pairwise_cons.mp h1
    have p2 := List.pairwise_cons.mp h2
    by_cases e : x = y
    · subst e
      refine List.Sublist.cons₂ _ (sub_of_asc p1.2 p2.2 fun z hz => ?_)
      rcases List.mem_cons.mp (h z (List.mem_cons_of_mem _ hz)) with e | e
      · have := p1.1 z hz; omega
      · exact e
    · refine List.Sublist.cons _ (sub_of_asc h1 p2.2 fun z hz => ?_)
      rcases List.mem_cons.mp (h z hz) with e' | e'
      · subst e'
        rcases List.mem_cons.mp hz with e2 | e2
        · exact absurd e2.symm e
        · have a1 := p1.1 z e2
          rcases List.mem_cons.mp (h x List.mem_cons_self) with a | a
          · exact absurd a e
          · have := p2.1 x a; omega
      · exact e'
theorem sumI_sub {f : Int → Int} (hf : ∀ x, 0 ≤ f x) {s t : List Int} (h : s.Sublist t) : sumI (s.map f) ≤ sumI (t.map f) := by
  induction h with
  | slnil => exact Int.le_refl _
  | cons x _ ih => have := hf x; simp only [List.map_cons, sumI]; omega
  | cons_cons x _ ih => simp only [List.map_cons, sumI]; omega
section
variable {b p : Int} {ws : List Int} {prs : List (List Int)}
theorem wt_nn (k : LOk b p ws prs) (x : Int) : 0 ≤ wt ws x := by
  unfold wt
  rw [List.getD_eq_getElem?_getD]
  cases e : ws[x.toNat]? with
  | none => exact Int.le_refl _
  | some y => have := (k.w y (List.mem_of_getElem? e)).1; show 0 ≤ y; omega
theorem may_sub (k : LOk b p ws prs) {s t : List Int} (h : s.Sublist t) (ht : may b p ws prs t = true) : may b p ws prs s = true := by
  unfold may sumW at *
  simp only [Bool.and_eq_true, decide_eq_true_eq, Bool.not_eq_true', List.any_eq_false] at *
  obtain ⟨⟨h1, h2⟩, h3⟩ := ht
  refine ⟨⟨?_, ?_⟩, fun q hq => ?_⟩
  · have := sumI_sub (wt_nn k) h; omega
  · have := h.length_le; omega
  · have := h3 q hq
    unfold hasP at *
    simp only [Bool.and_eq_true, decide_eq_true_eq] at *
    exact fun z => this ⟨h.subset z.1, h.subset z.2⟩
theorem may_one (k : LOk b p ws prs) {a : Int} (h : 0 ≤ a ∧ a < ws.length) : may b p ws prs [a] = true := by
  unfold may sumW
  simp only [Bool.and_eq_true, decide_eq_true_eq, Bool.not_eq_true', List.any_eq_false]
  have p1 := k.p1
  refine ⟨⟨?_, ?_⟩, fun q hq => ?_⟩
  · have hl : a.toNat < ws.length := by omega
    have := (k.w ws[a.toNat] (List.getElem_mem hl)).2.2
    simp only [List.map_cons, List.map_nil, sumI, wt]
    rw [List.getD_eq_getElem?_getD, List.getElem?_eq_getElem hl]
    show ws[a.toNat] + 0 ≤ b
    omega
  · simpa using p1
  · obtain ⟨i, j, rfl, _, h2, _⟩ := k.q q hq
    unfold hasP
    simp
    omega
end
/-! full lots -/
def ins (a : Int) : List Int → List Int
  | [] => [a]
  | x :: r => if a < x then a :: x :: r else x :: ins a r
theorem ins_perm (a : Int) : ∀ l : List Int, (ins a l).Perm (l ++ [a])
  | [] => List.Perm.refl _
  | x :: r => by
    unfold ins
    split
    · exact (List.perm_append_comm (l₁ := [a]) (l₂ := x :: r))
    · exact (ins_perm a r).cons x
theorem ins_asc {n : Nat} {a : Int} (ha : 0 ≤ a ∧ a < n) : ∀ {l : List Int}, Asc n l → a ∉ l → Asc n (ins a l) := by
  intro l h hn
  refine ⟨?_, fun x hx => ?_⟩
  · have key : ∀ l : List Int, l.Pairwise (· < ·) → a ∉ l → (ins a l).Pairwise (· < ·) := fun l => by
      induction l with
      | nil => intro _ _; exact List.pairwise_singleton _ _
      | cons x r ih =>
        intro h hn
        have p := List.pairwise_cons.mp h
        unfold ins
        split
        · rename_i hx
          refine List.pairwise_cons.mpr ⟨fun y hy => ?_, h⟩
          rcases List.mem_cons.mp hy with rfl | hy
          · exact hx
          · have := p.1 y hy; omega
        · rename_i hx
          refine List.pairwise_cons.mpr ⟨fun y hy => ?_, ih p.2 fun z => hn (List.mem_cons_of_mem _ z)⟩
          have := (ins_perm a r).mem_iff.mp hy
          rcases List.mem_append.mp this with h' | h'
          · exact p.1 y h'
          · rw [List.mem_singleton] at h'
            subst h'
            have : y ≠ x := fun e => hn (e ▸ List.mem_cons_self)
            omega
    exact key l h.1 hn
  · rcases List.mem_append.mp ((ins_perm a l).mem_iff.mp hx) with h' | h'
    · exact h.2 x h'
    · rw [List.mem_singleton.mp h']; exact ha
theorem sorted_ins {a : Int} {l : List Int} (h : (ins a l).Pairwise (· < ·)) : ∀ m : List Int, m.Perm (l ++ [a]) → m.Pairwise (· ≤ ·) → m = ins a l := fun m hp hm => by
  refine (hp.trans (ins_perm a l).symm).eq_of_pairwise (fun x y _ _ h1 h2 => by omega) hm (h.imp fun h => by omega)
def fullB (my : List Int → Bool) (m : Nat) (lot : List Int) : Bool := my lot && (rI m).all fun a => decide (a ∈ lot) || !my (lot ++ [a])
def fullL (my : List Int → Bool) (m : Nat) : List (List Int) := (subs m).filter (fullB my m)
theorem fullB_iff {my : List Int → Bool} {m : Nat} {lot : List Int} : fullB my m lot = true ↔ my lot = true ∧ ∀ a : Int, 0 ≤ a ∧ a < m → a ∉ lot → my (lot ++ [a]) = false := by
  unfold fullB
  simp only [Bool.and_eq_true, List.all_eq_true, Bool.or_eq_true, decide_eq_true_eq, Bool.not_eq_true']
  constructor
  · rintro ⟨h1, h2⟩
    refine ⟨h1, fun a ha hn => ?_⟩
    have hm : a ∈ rI m := List.mem_map.mpr ⟨a.toNat, List.mem_range.mpr (by omega), by omega⟩
    exact (h2 a hm).resolve_left hn
  · rintro ⟨h1, h2⟩
    refine ⟨h1, fun a ha => ?_⟩
    have := (rI_asc m).2 a ha
    by_cases hn : a ∈ lot
    · exact .inl hn
    · exact .inr (h2 a this hn)
theorem full_ext {my : List Int → Bool} (hp : ∀ s t : List Int, s.Perm t → my s = my t) {m : Nat} : ∀ (d : Nat) (lot : List Int), Asc m lot → my lot = true → m - lot.length ≤ d → ∃ one ∈ fullL my m, ∀ x ∈ lot, x ∈ one := by
  intro d
  induction d with
  | zero =>
    intro lot h hm hd
    have e := asc_full h (by omega)
    refine ⟨lot, List.mem_filter.mpr ⟨(subs_mem m lot).mpr h, fullB_iff.mpr ⟨hm, fun a ha hn => ?_⟩⟩, fun x hx => hx⟩
    exact absurd (by rw [e]; exact List.mem_map.mpr ⟨a.toNat, List.mem_range.mpr (by omega), by omega⟩) hn
  | succ d ih =>
    intro lot h hm hd
    by_cases hf : fullB my m lot = true
    · exact ⟨lot, List.mem_filter.mpr ⟨(subs_mem m lot).mpr h, hf⟩, fun x hx => hx⟩
    · have : ∃ a, (0 ≤ a ∧ a < (m : Int)) ∧ a ∉ lot ∧ my (lot ++ [a]) = true := by
        refine Classical.byContradiction fun hn => hf (fullB_iff.mpr ⟨hm, fun a ha hl => ?_⟩)
        rw [Bool.eq_false_iff]
        exact fun z => hn ⟨a, ha, hl, z⟩
      obtain ⟨a, ha, hl, hy⟩ := this
      have hi := ins_asc ha h hl
      have hy2 : my (ins a lot) = true := by rw [hp _ _ (ins_perm a lot)]; exact hy
      have hlen : (ins a lot).length = lot.length + 1 := by rw [(ins_perm a lot).length_eq]; simp
      obtain ⟨one, h1, h2⟩ := ih (ins a lot) hi hy2 (by omega)
      exact ⟨one, h1, fun x hx => h2 x ((ins_perm a lot).mem_iff.mpr (List.mem_append_left _ hx))⟩
/-! clashes -/
def npB (my : List Int → Bool) (lot : List Int) : Bool := lot.all fun c => lot.all fun d => !(decide (c < d) && my [c, d])
def ngL (s : List Int) : Int := -(s.length : Int)
def clashL (my : List Int → Bool) (m : Nat) : List (List Int) := (subs m).filter (npB my)
theorem clash_some (my : List Int → Bool) (m : Nat) : ∃ c, mnK ngL (clashL my m) = some c := by
  refine mnK_some fun z => ?_
  have : ([] : List Int) ∈ clashL my m := List.mem_filter.mpr ⟨(subs_mem m []).mpr ⟨List.Pairwise.nil, by simp⟩, rfl⟩
  rw [z] at this
  cases this
/-! all bags -/
def putIn (bags : List (List Int)) (a : Int) (k : Nat) : List (List Int) := if k = bags.length then bags ++ [[a]] else bags.take k ++ [bags.getD k [] ++ [a]] ++ bags.drop (k + 1)
def rowsA (line : List (List (List Int))) (a : Int) : List (List (List Int)) := line.flatMap fun bags => (List.range (bags.length + 1)).map fun k => putIn bags a k
def allA (my : List Int → Bool) : Nat → List (List (List Int))
  | 0 => [[]]
  | n + 1 => (rowsA (allA my n) n).filter fun bags => bags.all my
structure BgOk (my : List Int → Bool) (i : Nat) (bags : List (List Int)) : Prop where
  my : ∀ lot ∈ bags, my lot = true ∧ Asc i lot
  all : ∀ c : Int, 0 ≤ c ∧ c < i → ∃ lot ∈ bags, c ∈ lot
  len : bags.length ≤ i
theorem asc_up {i : Nat} {s : List Int} (h : Asc i s) : Asc (i + 1) s := ⟨h.1, fun x hx => by have := h.2 x hx; omega⟩
theorem asc_app {i : Nat} {s : List Int} (h : Asc i s) : Asc (i + 1) (s ++ [(i : Int)]) := by
  refine ⟨List.pairwise_append.mpr ⟨h.1, List.pairwise_singleton _ _, fun a ha b hb => ?_⟩, fun x hx => ?_⟩
  · rw [List.mem_singleton.mp hb]; exact (h.2 a ha).2
  · rcases List.mem_append.mp hx with h' | h'
    · have := h.2 x h'; omega
    · rw [List.mem_singleton.mp h']; omega
theorem putIn_mem {bags : List (List Int)} {a : Int} {k : Nat} (hk : k ≤ bags.length) {lot : List Int} (h : lot ∈ putIn bags a k) : lot ∈ bags ∨ ∃ s, lot = s ++ [a] ∧ (s = [] ∨ s ∈ bags) := by
  unfold putIn at h
  split at h
  · rcases List.mem_append.mp h with h | h
    · exact .inl h
    · exact .inr ⟨[], by rw [List.mem_singleton.mp h]; rfl, .inl rfl⟩
  · rename_i hne
    rcases List.mem_append.mp h with h | h
    · rcases List.mem_append.mp h with h | h
      · exact .inl (List.mem_of_mem_take h)
      · refine .inr ⟨bags.getD k [], List.mem_singleton.mp h, .inr ?_⟩
        rw [List.getD_eq_getElem?_getD, List.getElem?_eq_getElem (show k < bags.length by omega)]
        exact List.getElem_mem _
    · exact .inl (List.mem_of_mem_drop h)
theorem putIn_len {bags : List (List Int)} {a : Int} {k : Nat} (hk : k ≤ bags.length) : (putIn bags a k).length ≤ bags.length + 1 := by
  unfold putIn
  split
  · simp
  · simp only [List.length_append, List.length_take, List.length_drop, List.length_cons, List.length_nil]; omega
theorem putIn_old {bags : List (List Int)} {a : Int} {k : Nat} {c : Int} (hk : k ≤ bags.length) (h : ∃ lot ∈ bags, c ∈ lot) : ∃ lot ∈ putIn bags a k, c ∈ lot := by
  obtain ⟨lot, hl, hc⟩ := h
  unfold putIn
  split
  · exact ⟨lot, List.mem_append_left _ hl, hc⟩
  · rename_i hne
    have hlt : k < bags.length := by omega
    obtain ⟨j, hj, rfl⟩ := List.mem_iff_getElem.mp hl
    by_cases e1 : j < k
    · exact ⟨bags[j], List.mem_append_left _ (List.mem_append_left _ (List.mem_iff_getElem.mpr ⟨j, by rw [List.length_take]; omega, by rw [List.getElem_take]⟩)), hc⟩
    · by_cases e2 : j = k
      · subst e2
        refine ⟨_, List.mem_append_left _ (List.mem_append_right _ (List.mem_singleton.mpr rfl)), ?_⟩
        rw [List.getD_eq_getElem?_getD, List.getElem?_eq_getElem hlt]
        exact List.mem_append_left _ hc
      · refine ⟨bags[j], List.mem_append_right _ (List.mem_iff_getElem.mpr ⟨j - (k + 1), by rw [List.length_drop]; omega, ?_⟩), hc⟩
        rw [List.getElem_drop]
        congr 1
        omega
theorem putIn_new (bags : List (List Int)) (a : Int) (k : Nat) : ∃ lot ∈ putIn bags a k, a ∈ lot := by
  unfold putIn
  split
  · exact ⟨[a], List.mem_append_right _ (List.mem_singleton.mpr rfl), List.mem_singleton.mpr rfl⟩
  · exact ⟨_, List.mem_append_left _ (List.mem_append_right _ (List.mem_singleton.mpr rfl)), List.mem_append_right _ (List.mem_singleton.mpr rfl)⟩
theorem rowsA_mem {line : List (List (List Int))} {a : Int} {r : List (List Int)} (h : r ∈ rowsA line a) : ∃ bags ∈ line, ∃ k, k ≤ bags.length ∧ r = putIn bags a k := by
  obtain ⟨bags, hb, hr⟩ := List.mem_flatMap.mp h
  obtain ⟨k, hk, rfl⟩ := List.mem_map.mp hr
  have := List.mem_range.mp hk
  exact ⟨bags, hb, k, by omega, rfl⟩
theorem allA_ok (my : List Int → Bool) : ∀ (n : Nat) (bags : List (List Int)), bags ∈ allA my n → BgOk my n bags
  | 0, bags, h => by
    rw [List.mem_singleton.mp h]
    exact ⟨by simp, fun c hc => by omega, Nat.le_refl _⟩
  | n + 1, r, h => by
    obtain ⟨h1, h2⟩ := List.mem_filter.mp h
    obtain ⟨bags, hb, k, hk, rfl⟩ := rowsA_mem h1
    have ih := allA_ok my n bags hb
    rw [List.all_eq_true] at h2
    refine ⟨fun lot hl => ⟨h2 lot hl, ?_⟩, fun c hc => ?_, ?_⟩
    · rcases putIn_mem hk hl with h | ⟨s, rfl, rfl | h⟩
      · exact asc_up (ih.my lot h).2
      · exact asc_app ⟨List.Pairwise.nil, by simp⟩
      · exact asc_app (ih.my s h).2
    · by_cases e : c = n
      · subst e; exact putIn_new bags _ k
      · exact putIn_old hk (ih.all c (by omega))
    · have := putIn_len (a := (n : Int)) hk
      have := ih.len
      omega
def fac : Nat → Nat
  | 0 => 1
  | n + 1 => fac n * (n + 1)
theorem rowsA_len {my : List Int → Bool} {n : Nat} (a : Int) : ∀ line : List (List (List Int)), (∀ bags ∈ line, bags.length ≤ n) → (rowsA line a).length ≤ line.length * (n + 1)
  | [], _ => by simp [rowsA]
  | b :: line, h => by
    have ih := rowsA_len (my := my) (n := n) a line fun c hc => h c (List.mem_cons_of_mem _ hc)
    have h1 := h b List.mem_cons_self
    unfold rowsA at ih ⊢
    rw [List.flatMap_cons, List.length_append, List.length_map, List.length_range, List.length_cons, Nat.succ_mul]
    omega
theorem allA_len (my : List Int → Bool) : ∀ n : Nat, (allA my n).length ≤ fac n
  | 0 => Nat.le_refl _
  | n + 1 => by
    have h1 := rowsA_len (my := my) (n := n) (n : Int) (allA my n) fun b hb => (allA_ok my n b hb).len
    have h2 := allA_len my n
    refine Nat.le_trans (List.length_filter_le _ _) (Nat.le_trans h1 ?_)
    exact Nat.mul_le_mul_right _ h2
theorem allA_one {my : List Int → Bool} : ∀ n : Nat, (∀ a : Int, 0 ≤ a ∧ a < n → my [a] = true) → (rI n).map (fun a => [a]) ∈ allA my n
  | 0, _ => List.mem_singleton.mpr rfl
  | n + 1, h => by
    have ih := allA_one n fun a ha => h a (by omega)
    refine List.mem_filter.mpr ⟨List.mem_flatMap.mpr ⟨_, ih, List.mem_map.mpr ⟨n, List.mem_range.mpr (by rw [List.length_map, rI_len]; omega), ?_⟩⟩, ?_⟩
    · unfold putIn
      rw [if_pos (by rw [List.length_map, rI_len])]
      unfold rI
      rw [List.range_succ, List.map_append, List.map_append]
      rfl
    · rw [List.all_eq_true]
      intro lot hl
      obtain ⟨a, ha, rfl⟩ := List.mem_map.mp hl
      exact h a ((rI_asc (n + 1)).2 a ha)
theorem pigeon {my : List Int → Bool} {m : Nat} {bags : List (List Int)} {c : List Int} (hs : ∀ s t : List Int, s.Sublist t → my t = true → my s = true) (hb : BgOk my m bags) (hc : Asc m c) (hn : npB my c = true) : c.length ≤ bags.length := by
  have hf : ∀ x ∈ c, bags.findIdx (fun lot => decide (x ∈ lot)) < bags.length ∧ ∃ lot, bags[bags.findIdx (fun lot => decide (x ∈ lot))]? = some lot ∧ x ∈ lot := fun x hx => by
    obtain ⟨lot, hl, hxl⟩ := hb.all x (hc.2 x hx)
    have hlt : bags.findIdx (fun lot => decide (x ∈ lot)) < bags.length := List.findIdx_lt_length_of_exists ⟨lot, hl, by simpa using hxl⟩
    refine ⟨hlt, _, List.getElem?_eq_getElem hlt, ?_⟩
    have := List.findIdx_getElem (w := hlt)
    simpa using this
  have nd : (c.map fun x => bags.findIdx fun lot => decide (x ∈ lot)).Nodup := by
    have key : ∀ x ∈ c, ∀ y ∈ c, x < y → (bags.findIdx fun lot => decide (x ∈ lot)) ≠ (bags.findIdx fun lot => decide (y ∈ lot)) := fun x hx y hy hxy e => by
      obtain ⟨_, l1, e1, m1⟩ := hf x hx
      obtain ⟨_, l2, e2, m2⟩ := hf y hy
      rw [e, e2] at e1
      have e1 := Option.some.inj e1
      subst e1
      have hl := hb.my l2 (List.mem_of_getElem? e2)
      have := hs [x, y] l2 (sub_of_asc (by simpa using hxy) hl.2.1 fun z hz => by
        rcases List.mem_cons.mp hz with rfl | hz
        · exact m1
        · rw [List.mem_singleton.mp hz]; exact m2) hl.1
      unfold npB at hn
      rw [List.all_eq_true] at hn
      have h1 := hn x hx
      rw [List.all_eq_true] at h1
      have h2 := h1 y hy
      rw [this, decide_eq_true hxy] at h2
      cases h2
    unfold List.Nodup
    rw [List.pairwise_map]
    exact List.Pairwise.imp_of_mem (fun {x y} hx hy h => key x hx y hy h) hc.1
  have := nd.length_le_of_subset (l₂ := List.range bags.length) fun i hi => by
    obtain ⟨x, hx, rfl⟩ := List.mem_map.mp hi
    exact List.mem_range.mpr (hf x hx).1
  rwa [List.length_map, List.length_range] at this
def fewV (my : List Int → Bool) (m : Nat) : Option Int := mn ((allA my m).map fun bags => (bags.length : Int))
/-! the same on lots that are asked -/
theorem full_nil {my : List Int → Bool} {m : Nat} (h1 : 1 ≤ m) (h : ∀ a : Int, 0 ≤ a ∧ a < m → my [a] = true) {l : List Int} (hl : l ∈ fullL my m) : l ≠ [] := by
  rintro rfl
  have := (fullB_iff.mp (List.mem_filter.mp hl).2).2 0 ⟨by omega, by omega⟩ (by simp)
  rw [List.nil_append, h 0 ⟨by omega, by omega⟩] at this
  cases this
end Lw

/-! D3: heavy and light ones. -/
namespace Lw
open PySem PySem.Spec Pv
/-! heavy and light ones -/
def cntH (h : Nat) (lot : List Int) : Nat := (lot.filter fun a => decide (a < (h : Int))).length
def mayH (h : Nat) (lot : List Int) : Bool := decide (cntH h lot ≤ 1)
theorem hv_all : ∀ h : Fin 5, ∀ l : Fin 4, 1 ≤ h.val → (mnK ngL (clashL (mayH h.val) (h.val + l.val)) = some (rI h.val) ∧ fewV (mayH h.val) (h.val + l.val) = some (h.val : Int) ∧ (fullL (mayH h.val) (h.val + l.val)).length = h.val) := by decide +kernel
theorem filter_congr' {α : Type} {f g : α → Bool} : ∀ {l : List α}, (∀ x ∈ l, f x = g x) → l.filter f = l.filter g
  | [], _ => rfl
  | x :: l, h => by
    rw [List.filter_cons, List.filter_cons, h x List.mem_cons_self, filter_congr' fun y hy => h y (List.mem_cons_of_mem _ hy)]
theorem all_congr' {α : Type} {f g : α → Bool} : ∀ {l : List α}, (∀ x ∈ l, f x = g x) → l.all f = l.all g
  | [], _ => rfl
  | x :: l, h => by
    rw [List.all_cons, List.all_cons, h x List.mem_cons_self, all_congr' fun y hy => h y (List.mem_cons_of_mem _ hy)]
/-- lots of unlike parcels -/
def Nd (m : Nat) (s : List Int) : Prop := s.Nodup ∧ ∀ x ∈ s, 0 ≤ x ∧ x < m
theorem asc_nd {m : Nat} {s : List Int} (h : Asc m s) : Nd m s := ⟨asc_nodup h, h.2⟩
theorem nd_app {m : Nat} {s : List Int} {a : Int} (h : Nd m s) (ha : 0 ≤ a ∧ a < m) (hn : a ∉ s) : Nd m (s ++ [a]) := by
  refine ⟨List.nodup_append.mpr ⟨h.1, by simp, fun x hx y hy e => ?_⟩, fun x hx => ?_⟩
  · rw [List.mem_singleton.mp hy] at e; exact hn (e ▸ hx)
  · rcases List.mem_append.mp hx with h' | h'
    · exact h.2 x h'
    · rw [List.mem_singleton.mp h']; exact ha
theorem full_congr {my my' : List Int → Bool} {m : Nat} (h : ∀ s, Nd m s → my s = my' s) : fullL my m = fullL my' m := by
  refine filter_congr' fun lot hl => ?_
  have ha := asc_nd ((subs_mem m lot).mp hl)
  unfold fullB
  rw [h lot ha]
  congr 1
  refine all_congr' fun a hm => ?_
  by_cases hn : a ∈ lot
  · simp [hn]
  · rw [h _ (nd_app ha ((rI_asc m).2 a hm) hn)]
theorem clash_congr {my my' : List Int → Bool} {m : Nat} (h : ∀ s, Nd m s → my s = my' s) : clashL my m = clashL my' m := by
  refine filter_congr' fun lot hl => ?_
  have ha := (subs_mem m lot).mp hl
  unfold npB
  refine all_congr' fun c hc => all_congr' fun d hd => ?_
  by_cases hcd : c < d
  · rw [h [c, d] ⟨by simp; omega, fun x hx => by
      rcases List.mem_cons.mp hx with rfl | hx
      · exact ha.2 _ hc
      · rw [List.mem_singleton.mp hx]; exact ha.2 _ hd⟩]
  · simp [hcd]
theorem asc_le {n m : Nat} {s : List Int} (h : Asc n s) (hm : n ≤ m) : Asc m s := ⟨h.1, fun x hx => by have := h.2 x hx; omega⟩
theorem allA_congr {my my' : List Int → Bool} {m : Nat} (h : ∀ s, Nd m s → my s = my' s) : ∀ n : Nat, n ≤ m → allA my n = allA my' n
  | 0, _ => rfl
  | n + 1, hn => by
    have ih := allA_congr h n (by omega)
    unfold allA
    rw [← ih]
    refine filter_congr' fun r hr => all_congr' fun lot hl => ?_
    obtain ⟨bags, hb, k, hk, rfl⟩ := rowsA_mem hr
    have ok := allA_ok my n bags hb
    refine h lot (asc_nd (asc_le (?_ : Asc (n + 1) lot) hn))
    rcases putIn_mem hk hl with h' | ⟨s, rfl, rfl | h'⟩
    · exact asc_up (ok.my lot h').2
    · exact asc_app ⟨List.Pairwise.nil, by simp⟩
    · exact asc_app (ok.my s h').2
theorem few_congr {my my' : List Int → Bool} {m : Nat} (h : ∀ s, Nd m s → my s = my' s) : fewV my m = fewV my' m := by
  unfold fewV
  rw [allA_congr h m (Nat.le_refl m)]
def hws (h l : Nat) (w : Int) : List Int := List.replicate h w ++ List.replicate l 1
theorem hws_wt {h l : Nat} {w x : Int} (hx : 0 ≤ x ∧ x < ((h + l : Nat) : Int)) : wt (hws h l w) x = if x < h then w else 1 := by
  unfold wt hws
  rw [List.getD_eq_getElem?_getD]
  by_cases hlt : x < h
  · rw [if_pos hlt, List.getElem?_append_left (by rw [List.length_replicate]; omega), List.getElem?_replicate, if_pos (by omega)]
    rfl
  · rw [if_neg hlt, List.getElem?_append_right (by rw [List.length_replicate]; omega), List.getElem?_replicate, if_pos (by rw [List.length_replicate]; omega)]
    rfl
theorem sum_hv {h l : Nat} {w : Int} : ∀ lot : List Int, (∀ x ∈ lot, 0 ≤ x ∧ x < ((h + l : Nat) : Int)) → sumW (hws h l w) lot = w * (cntH h lot : Int) + ((lot.length : Int) - (cntH h lot : Int))
  | [], _ => by simp [sumW, sumI, cntH]
  | x :: lot, hx => by
    have ih := sum_hv (w := w) lot fun y hy => hx y (List.mem_cons_of_mem _ hy)
    have h1 := hws_wt (w := w) (hx x List.mem_cons_self)
    unfold sumW at ih ⊢
    simp only [List.map_cons, sumI, ih, h1]
    unfold cntH
    by_cases hlt : x < h
    · rw [if_pos hlt, List.filter_cons_of_pos (by simpa using hlt), List.length_cons, List.length_cons]
      have e : w * ((((lot.filter fun a => decide (a < (h : Int))).length + 1 : Nat)) : Int) = w * ((lot.filter fun a => decide (a < (h : Int))).length : Int) + w := by
        rw [Int.natCast_add, Int.mul_add]
        simp
      rw [e]
      omega
    · rw [if_neg hlt, List.filter_cons_of_neg (by simpa using hlt), List.length_cons]
      omega
theorem cnt_light {h l : Nat} : ∀ lot : List Int, lot.Nodup → (∀ x ∈ lot, 0 ≤ x ∧ x < ((h + l : Nat) : Int)) → lot.length ≤ cntH h lot + l := by
  intro lot nd hb
  have e : lot.length = cntH h lot + (lot.filter fun a => !decide (a < (h : Int))).length := by
    unfold cntH
    induction lot with
    | nil => rfl
    | cons x r ih =>
      have ih := ih (List.nodup_cons.mp nd).2 fun y hy => hb y (List.mem_cons_of_mem _ hy)
      by_cases hlt : x < (h : Int)
      · rw [List.filter_cons_of_pos (by simpa using hlt), List.filter_cons_of_neg (by simpa using hlt), List.length_cons, List.length_cons]; omega
      · rw [List.filter_cons_of_neg (by simpa using hlt), List.filter_cons_of_pos (by simpa using hlt), List.length_cons, List.length_cons]; omega
  have ndf : (lot.filter fun a => !decide (a < (h : Int))).Nodup := nd.filter _
  have := ndf.length_le_of_subset (l₂ := (List.range l).map fun (i : Nat) => ((h + i : Nat) : Int)) fun x hx => by
    obtain ⟨h1, h2⟩ := List.mem_filter.mp hx
    have := hb x h1
    have h2 : ¬ x < (h : Int) := by simpa using h2
    exact List.mem_map.mpr ⟨(x - h).toNat, List.mem_range.mpr (by omega), by omega⟩
  rw [List.length_map, List.length_range] at this
  omega
theorem may_hv {h l : Nat} {b : Int} (h4 : h ≤ 4) (l3 : l ≤ 3) (b1 : 50 ≤ b) (b2 : b ≤ 99) (s : List Int) (hs : Nd (h + l) s) : may b 7 (hws h l (b / 2 + 1)) [] s = mayH h s := by
  have e1 := sum_hv (w := b / 2 + 1) s hs.2
  have e2 := cnt_light s hs.1 hs.2
  have e3 : s.length ≤ h + l := by
    have := hs.1.length_le_of_subset (l₂ := rI (h + l)) fun x hx => by
      have := hs.2 x hx
      exact List.mem_map.mpr ⟨x.toNat, List.mem_range.mpr (by omega), by omega⟩
    rwa [rI_len] at this
  have e4 : cntH h s ≤ s.length := List.length_filter_le _ _
  unfold may mayH
  rw [e1, List.any_nil, Bool.not_false, Bool.and_true, decide_eq_true (show (s.length : Int) ≤ 7 by omega), Bool.and_true]
  refine decide_eq_decide.mpr ?_
  generalize hw : b / 2 + 1 = w
  have w1 : 2 * w > b := by omega
  have w2 : w + 3 ≤ b := by omega
  constructor
  · intro hle
    refine Classical.byContradiction fun hc => ?_
    have : w * 2 ≤ w * (cntH h s : Int) := Int.mul_le_mul_of_nonneg_left (by omega) (by omega)
    omega
  · intro hc
    have : cntH h s = 0 ∨ cntH h s = 1 := by omega
    rcases this with z | z
    · rw [z]; simp; omega
    · rw [z]; simp; omega
theorem hv_ok {h l : Nat} {b : Int} (h1 : 1 ≤ h) (h4 : h ≤ 4) (l3 : l ≤ 3) (b1 : 50 ≤ b) (b2 : b ≤ 99) : LOk b 7 (hws h l (b / 2 + 1)) [] := by
  refine ⟨by omega, by omega, by omega, by omega, by unfold hws; simp; omega, by unfold hws; simp; omega, fun x hx => ?_, by simp, fun q hq => by simp at hq, List.Pairwise.nil⟩
  unfold hws at hx
  rcases List.mem_append.mp hx with h' | h'
  · rw [(List.mem_replicate.mp h').2]; omega
  · rw [(List.mem_replicate.mp h').2]; omega
theorem hv_facts {h l : Nat} {b : Int} (h1 : 1 ≤ h) (h4 : h ≤ 4) (l3 : l ≤ 3) (b1 : 50 ≤ b) (b2 : b ≤ 99) : mnK ngL (clashL (may b 7 (hws h l (b / 2 + 1)) []) (h + l)) = some (rI h) ∧ fewV (may b 7 (hws h l (b / 2 + 1)) []) (h + l) = some (h : Int) ∧ (fullL (may b 7 (hws h l (b / 2 + 1)) []) (h + l)).length = h := by
  have hm := fun s hs => may_hv (b := b) h4 l3 b1 b2 s hs
  rw [clash_congr hm, few_congr hm, full_congr hm]
  exact hv_all ⟨h, by omega⟩ ⟨l, by omega⟩ h1
end Lw

/-! D4: tools. -/
namespace Lw
open PySem PySem.Spec Pv
theorem evEs_cons (Φ : Nat → List PV → M PV) (e : E) (r : Es) (env : En) : evEs Φ (.cons e r) env = M.bnd (evE Φ e env) fun x => M.bnd (evEs Φ r env) fun xs => M.ret (x :: xs) := by rw [evEs]
theorem rdV_val (p : PV) : M.opt (rdV (.val p)) = M.ret p := rfl
theorem wipe1 (env : En) (v : Nat) : wipeE env [v] = put env v .no := rfl
theorem nx_nx (Φ : Nat → List PV → M PV) (r : Ss) (Q : Fl → Sto → Prop) (env : En) (st : Sto) : aft Φ r Q (.nx env) st = wS (evSs Φ r env st) Q := rfl
theorem wS_asgN {Φ : Nat → List PV → M PV} {i : Nat} {e : E} {env : En} {st : Sto} {rest : Ss} {Q : Fl → Sto → Prop} (hi : i < env.length) : wS (evSs Φ (.cons (.asg (.name i) e) rest) env st) Q = wM (evE Φ e env) (fun v st' => wS (evSs Φ rest (put env i (.val v)) st') Q) st := by
  rw [wS_cons, evS, wS_lift]
  congr 1
  funext v st'
  rw [bindG_name, if_pos hi]
  rfl
theorem wS_ifF {Φ : Nat → List PV → M PV} {c : T} {a : Ss} {env : En} {st : Sto} {rest : Ss} {Q : Fl → Sto → Prop} (h : evT Φ c env st = .ok false st) : wS (evSs Φ (.cons (.ife c a .nil) rest) env st) Q = wS (evSs Φ rest env st) Q := by
  rw [wS_cons, evS, wS_lift, wM_of h, wS_nil]
  rfl
theorem wS_kill {Φ : Nat → List PV → M PV} {ks : List Nat} {env : En} {st : Sto} {rest : Ss} {Q : Fl → Sto → Prop} : wS (evSs Φ (.cons (.kill ks) rest) env st) Q = wS (evSs Φ rest (kills env ks) st) Q := by
  rw [wS_cons, evS, wS_ok, nx_nx]
theorem wS_for {Φ : Nat → List PV → M PV} {g : G} {it : I} {b : Ss} {ks : List Nat} {env : En} {st : Sto} {rest : Ss} {Q : Fl → Sto → Prop} {its : List PV} (h : evI Φ it env st = .ok its st) : wS (evSs Φ (.cons (.for g it b ks) rest) env st) Q = wS (forL (bindS g (evSs Φ b)) ks its env st) (aft Φ rest Q) := by
  rw [wS_cons, evS, wS_lift, wM_of h]
theorem wS_ret {Φ : Nat → List PV → M PV} {e : E} {env : En} {st : Sto} {rest : Ss} {Q : Fl → Sto → Prop} : wS (evSs Φ (.cons (.ret e) rest) env st) Q = wM (evE Φ e env) (fun v st' => Q (.rt v) st') st := by
  rw [wS_cons, evS, wS_lift]
  rfl
theorem r1_ex {R : Int} (h0 : 0 ≤ R) (h : R ≤ 1000) : ∃ its, range1 (.int R) = some its ∧ its.length = R.toNat := by
  obtain ⟨n, rfl⟩ : ∃ n : Nat, R = n := ⟨R.toNat, by omega⟩
  exact ⟨_, r1_nat (by omega), by simp⟩
theorem wS_asgT {Φ : Nat → List PV → M PV} {g : G} {e : E} {env : En} {st : Sto} {rest : Ss} {Q : Fl → Sto → Prop} : wS (evSs Φ (.cons (.asg g e) rest) env st) Q = wM (evE Φ e env) (fun v st' => wS (match bindG g v env with | some env' => .ok (.nx env') st' | none => .bad) (aft Φ rest Q)) st := by
  rw [wS_cons, evS, wS_lift]
  all_goals congr 1
theorem wS_ifT {Φ : Nat → List PV → M PV} {c : T} {a : Ss} {env : En} {st : Sto} {rest : Ss} {Q : Fl → Sto → Prop} (h : evT Φ c env st = .ok true st) : wS (evSs Φ (.cons (.ife c a .nil) rest) env st) Q = wS (evSs Φ a env st) (aft Φ rest Q) := by
  rw [wS_cons, evS, wS_lift, wM_of h]
theorem okD_CV (n : Nat) (a : List Int) : okD (n + 1) (CV a) = true := by
  unfold CV okD
  exact okDs_all fun x hx => by
    obtain ⟨i, _, rfl⟩ := List.mem_map.mp hx
    exact okD_int _ _
theorem cmp_ltCV (a b : List Int) : cmpP .lt (CV a) (CV b) = some (.bl (ltL a b)) := by
  show (ltT (CV a) (CV b)).map PV.bl = _
  unfold ltT
  rw [if_pos ⟨okD_CV 29 a, okD_CV 29 b, alI_CV a b⟩, ltB_CV]
  rfl
theorem intsOf_map : ∀ l : List Int, intsOf (l.map .int) = some l
  | [] => rfl
  | x :: l => by simp [intsOf, intsOf_map l]
theorem min_ints (l : List Int) {m : Int} (h : mn l = some m) : bfP .min [.lst (l.map .int)] = some (.int m) := by
  show (match intsOf (l.map .int) with | some ns => minO ns | none => _) = _
  rw [intsOf_map]
  cases l with
  | nil => cases h
  | cons x r =>
    simp only [mn, Option.some.injEq] at h
    subst h
    rfl
theorem keyD_CV (c : List Int) : keyD (CV c) = c := by
  unfold keyD
  rw [show keyP (CV c) = intsOf (c.map .int) from rfl, intsOf_map]
  rfl
def gC (f : List Int → Bool) : PV → Option PV := fun p => if f (keyD p) = true then some p else none
theorem gC_map (f : List Int → Bool) : ∀ cs : List (List Int), (cs.map CV).filterMap (gC f) = (cs.filter f).map CV
  | [] => rfl
  | c :: cs => by
    by_cases h : f c = true
    · rw [List.map_cons, List.filterMap_cons_some (b := CV c) (by unfold gC; rw [keyD_CV, if_pos h]), gC_map f cs, List.filter_cons_of_pos h]
      rfl
    · rw [List.map_cons, List.filterMap_cons_none (by unfold gC; rw [keyD_CV, if_neg h]), gC_map f cs, List.filter_cons_of_neg h]
def apE (e : Nat) : E := .bin .add (.var 1) (.comp (.bin .add (.var e) (.tup (.cons (.var 2) .nil))) (.name e) (.val (.var 1)) .nil [e])
def gA (z : Int) : PV → Option PV := fun p => some (CV (keyD p ++ [z]))
theorem gA_map (z : Int) : ∀ cs : List (List Int), (cs.map CV).filterMap (gA z) = (cs.map fun s => s ++ [z]).map CV
  | [] => rfl
  | c :: cs => by
    rw [List.map_cons, List.filterMap_cons_some (b := CV (c ++ [z])) (by unfold gA; rw [keyD_CV]), gA_map z cs]
    rfl
theorem addCV (s : List Int) (z : Int) (h : s.length ≤ 1000) : binP .add (CV s) (.tup [.int z]) = some (CV (s ++ [z])) := by
  unfold CV
  show (if _ then _ else _) = _
  rw [if_pos (by simp; omega), List.map_append]
  rfl
theorem ap_ev (Φ : Nat → List PV → M PV) (e : Nat) (ls : List (List Int)) (z : Int) (hl : ls.length ≤ 1000) (hs : ∀ s ∈ ls, s.length ≤ 1000) (env : En) (h1 : look env 1 = .val (.lst (ls.map CV))) (h2 : look env 2 = .val (.int z)) (he : e < env.length) (hne : e ≠ 2) (st : Sto) : evE Φ (apE e) env st = .ok (.lst ((ls ++ ls.map fun s => s ++ [z]).map CV)) st := by
  have es : seqOf (.lst (ls.map CV)) = some (ls.map CV) := rfl
  have hb : binP .add (.lst (ls.map CV)) (.lst ((ls.map fun s => s ++ [z]).map CV)) = some (.lst ((ls ++ ls.map fun s => s ++ [z]).map CV)) := by
    show (if _ then _ else _) = _
    rw [if_pos (by simp only [List.length_map]; omega), List.map_append]
  have ha := fun s h => addCV s z (hs s h)
  unfold apE
  generalize PV.lst (ls.map CV) = L at h1 es hb
  apply wM_eq
  rw [evE, wM_bnd, evE, h1, rdV_val, wM_ret, wM_bnd, evE, wM_bnd, evI, wM_bnd, evE, h1, rdV_val, wM_ret, es, wM_some, wM_bnd, wM_nox]
  rw [wM_of (compL_pure (gA z) fun x hx => ?_)]
  · rw [gA_map, wM_ret, hb, wM_some]
    exact ⟨rfl, rfl⟩
  · obtain ⟨s, hsm, rfl⟩ := List.mem_map.mp hx
    have ha := ha s hsm
    rw [wipe1, bindG_name, if_pos (by rw [put_len]; exact he)]
    have l1 : look (put (put env e .no) e (.val (CV s))) e = .val (CV s) := look_put_same (by rw [put_len]; exact he)
    have l2 : look (put (put env e .no) e (.val (CV s))) 2 = .val (.int z) := by rw [look_put_ne (Ne.symm hne), look_put_ne (Ne.symm hne)]; exact h2
    unfold gA
    rw [keyD_CV]
    generalize put (put env e .no) e (.val (CV s)) = env' at l1 l2 ⊢
    generalize CV s = Z at ha l1
    generalize CV (s ++ [z]) = Y at ha ⊢
    simp [evTs, evE, evEs, l1, l2, rdV, opt_some, bnd_ret, M.bnd, M.ret, ha]
theorem subs_b {i : Nat} (h : i ≤ 8) : (subs i).length ≤ 1000 ∧ ∀ s ∈ subs i, s.length ≤ 1000 := by
  refine ⟨by rw [subs_len]; exact Nat.le_trans (Nat.pow_le_pow_right (by omega) h) (by decide), fun s hs => ?_⟩
  have := asc_len ((subs_mem i s).mp hs)
  omega
theorem eqB_CV (a b : List Int) : eqB (CV a) (CV b) = decide (a = b) := by
  unfold CV
  rw [eqB]
  induction a generalizing b with
  | nil => cases b <;> simp [eqBs]
  | cons x a ih =>
    cases b with
    | nil => simp [eqBs]
    | cons y b =>
      simp only [List.map_cons, eqBs, eqB, ih b]
      by_cases h1 : x = y <;> by_cases h2 : a = b <;> simp [h1, h2]
theorem len_CV (s : List Int) : bfP .len [CV s] = some (.int (s.length : Nat)) := by
  show some (PV.int ((s.map PV.int).length : Nat)) = _
  rw [List.length_map]
theorem plB_CV (c : List Int) (d : Nat) (h : c.length ≤ 1000) : plB (d + 1) (CV c) = true := by
  unfold CV plB
  rw [Bool.and_eq_true, decide_eq_true_eq, List.length_map, List.all_eq_true]
  refine ⟨h, fun x hx => ?_⟩
  obtain ⟨i, _, rfl⟩ := List.mem_map.mp hx
  cases d <;> rfl
theorem plB_tup (xs : List PV) (d : Nat) (h : xs.length ≤ 1000) (h2 : ∀ x ∈ xs, plB d x = true) : plB (d + 1) (.tup xs) = true := by
  unfold plB
  rw [Bool.and_eq_true, decide_eq_true_eq, List.all_eq_true]
  exact ⟨h, h2⟩
theorem ix_T (cs : List (List Int)) (J : Int) (h0 : 0 ≤ J) (h : J.toNat < cs.length) : M.ix (.tup (cs.map CV)) (.int J) = M.ret (CV (cs.getD J.toNat [])) := by
  rw [ix_tup]
  unfold atL
  rw [if_pos h0, List.getElem?_map, List.getElem?_eq_getElem h, List.getD_eq_getElem?_getD, List.getElem?_eq_getElem h]
  rfl
theorem repL_one (x : PV) (n : Nat) : repL [x] n = List.replicate n x := by
  unfold repL
  induction n with
  | zero => rfl
  | succ n ih => rw [List.replicate_succ, List.flatten_cons, ih, List.replicate_succ]; rfl
theorem mulT (w mi : Int) (L : Nat) (hL : mi = L) (L8 : L ≤ 8) : binP .mul (.tup [.int w]) (.int mi) = some (CV (List.replicate L w)) := by
  show (if _ then _ else _) = _
  rw [if_pos ⟨by omega, by omega, by simp⟩, hL, Int.toNat_natCast, repL_one]
  unfold CV
  rw [List.map_replicate]
theorem addCC (a b : List Int) (h : a.length + b.length ≤ 1000000) : binP .add (CV a) (CV b) = some (CV (a ++ b)) := by
  unfold CV
  show (if _ then _ else _) = _
  rw [if_pos (by simpa using h), List.map_append]
theorem tupL (xs : List PV) : bfP .tuple [.lst xs] = some (.tup xs) := rfl
theorem rg_CV (l : Nat) (h : l ≤ 1000) : (range1 (.int (l : Nat))).map PV.tup = some (CV (rI l)) := by
  rw [r1_nat (by omega), Option.map_some]
  unfold CV rI
  rw [List.map_map]
  rfl
theorem ne_int (x : Int) : cmpP .ne (.int x) (.int x) = some (.bl false) := by
  rw [cmp_neI]
  simp
theorem ne_CV (a : List Int) : cmpP .ne (CV a) (CV a) = some (.bl false) := by
  show (eqP (CV a) (CV a)).map (fun c => PV.bl (!c)) = _
  unfold eqP
  rw [okD_CV, Bool.and_self, if_pos rfl, eqB_CV, decide_eq_true rfl]
  rfl
end Lw

/-! D5: loads. -/
namespace Lw
open PySem PySem.Spec Pv
def QV (prs : List (List Int)) : PV := .tup (prs.map CV)
def LV (b p : Int) (ws : List Int) (prs : List (List Int)) : PV := .tup [.int b, .int p, CV ws, QV prs]
theorem ix_L0 (b p : Int) (ws : List Int) (prs : List (List Int)) : M.ix (LV b p ws prs) (.int 0) = M.ret (.int b) := rfl
theorem ix_L1 (b p : Int) (ws : List Int) (prs : List (List Int)) : M.ix (LV b p ws prs) (.int 1) = M.ret (.int p) := rfl
theorem ix_L2 (b p : Int) (ws : List Int) (prs : List (List Int)) : M.ix (LV b p ws prs) (.int 2) = M.ret (CV ws) := rfl
theorem ix_L3 (b p : Int) (ws : List Int) (prs : List (List Int)) : M.ix (LV b p ws prs) (.int 3) = M.ret (QV prs) := rfl
theorem cut1 (xs : List PV) : cutL xs (some (1 : Int)) none = xs.drop 1 := by
  cases xs with
  | nil => rfl
  | cons x r => exact cut_hi (x :: r) 1 (by simp)
theorem all_tt (l : List PV) : bfP .all [.lst (l.filterMap fun _ => some (.bl true))] = some (.bl true) := by
  show (blsOf _).map _ = _
  rw [bls_all fun _ => true]
  simp
theorem ok_rising (n : Nat) (xs : List PV) (hP : ∀ p ∈ pairs2 xs (xs.drop 1), ∃ a b, p = .tup [a, b] ∧ cmpP .lt a b = some (.bl true)) (st : Sto) : callN ds (n + 1) 2 [.tup xs] st = .ok (.bl true) st := by
  have e1 : slP (.tup xs) (some 1) none = some (.tup (xs.drop 1)) := by
    show some (PV.tup (cutL _ _ _)) = _
    rw [cut1]
  have e2 : zipP (.tup xs) (.tup (xs.drop 1)) = some (pairs2 xs (xs.drop 1)) := rfl
  apply wM_eq
  rw [wM_call (d := d2) rfl rfl]
  generalize PV.tup xs = T at e1 e2 ⊢
  generalize PV.tup (xs.drop 1) = Y at e1 e2
  generalize pairs2 xs (xs.drop 1) = Z at e2 hP
  simp [d2, enter, wS_cons, wS_nil, aft, finQ, wS_lift, wM_ret, wM_bnd, wM_nox, wM_some, opt_some, bnd_ret, evS, evE, evEs, evOe, evI, look, rdV, e1, e2]
  rw [wM_of (compL_pure (fun _ => some (.bl true)) fun x hx => ?_)]
  · simp only [bls_all fun _ => true, bfP, Option.map_some, opt_some, wM_ret]
    simp [wM_ret, wS_ok, aft, finQ]
  · obtain ⟨a, b, rfl, h⟩ := hP x hx
    simp only [bindG_tup, bindGs_cons, bindG_name, bindGs_nil]
    simp [put, wipeE]
    simp [evTs, evE, look, rdV, opt_some, bnd_ret, M.bnd, M.ret, h]
theorem pairs_up : ∀ cs : List (List Int), cs.Pairwise (fun a b => ltL a b = true) → ∀ p ∈ pairs2 (cs.map CV) ((cs.map CV).drop 1), ∃ a b, p = .tup [a, b] ∧ cmpP .lt a b = some (.bl true)
  | [], _, p, h => by simp [pairs2] at h
  | [a], _, p, h => by simp [pairs2] at h
  | a :: b :: r, k, p, h => by
    have k' := List.pairwise_cons.mp k
    simp only [List.map_cons, List.drop_succ_cons, List.drop_zero, pairs2, List.mem_cons] at h
    rcases h with rfl | h
    · refine ⟨CV a, CV b, rfl, ?_⟩
      rw [cmp_ltCV, k'.1 b List.mem_cons_self]
    · exact pairs_up (b :: r) k'.2 p h
theorem pairs_asc : ∀ s : List Int, s.Pairwise (· < ·) → ∀ p ∈ pairs2 (s.map .int) ((s.map .int).drop 1), ∃ a b, p = .tup [a, b] ∧ cmpP .lt a b = some (.bl true)
  | [], _, p, h => by simp [pairs2] at h
  | [a], _, p, h => by simp [pairs2] at h
  | a :: b :: r, k, p, h => by
    have k' := List.pairwise_cons.mp k
    simp only [List.map_cons, List.drop_succ_cons, List.drop_zero, pairs2, List.mem_cons] at h
    rcases h with rfl | h
    · refine ⟨.int a, .int b, rfl, ?_⟩
      rw [cmp_ltI, decide_eq_true (k'.1 b List.mem_cons_self)]
    · exact pairs_asc (b :: r) k'.2 p h
theorem ok_fsome (n m : Nat) (N : Int) (hN : N = m) {lot : List Int} (h : Asc m lot) (st : Sto) : callN ds (n + 2) 3 [.int N, CV lot] st = .ok (.bl true) st := by
  have hl := asc_len h
  have c1 : callN ds (n + 1) 1 [CV lot, .int 0, .int N] st = .ok (.bl true) st := by
    unfold CV
    rw [ok_tupOf, List.length_map, decide_eq_true (by omega), decide_eq_true (by omega)]
    rfl
  have c2 : callN ds (n + 1) 2 [CV lot] st = .ok (.bl true) st := ok_rising n _ (pairs_asc lot h.1) st
  have h1 := fun Q : PV → Sto → Prop => wM_of (Q := Q) c1
  have h2 := fun Q : PV → Sto → Prop => wM_of (Q := Q) c2
  have es : seqOf (CV lot) = some (lot.map .int) := rfl
  apply wM_eq
  rw [wM_call (d := d3) rfl rfl]
  generalize CV lot = T at h1 h2 es ⊢
  simp [d3, enter, wS_cons, wS_nil, aft, finQ, wS_lift, wM_ret, wM_bnd, wM_nox, wM_some, opt_some, bnd_ret, evS, evE, evBo, evEs, evI, look, rdV, h1, es]
  rw [wM_of (compL_pure (fun _ => some (.bl true)) fun x hx => ?_)]
  · simp only [bls_all fun _ => true, bfP, Option.map_some, opt_some, wM_ret]
    simp [wM_ret, wM_bnd, h2, wS_ok, aft, finQ]
  · obtain ⟨i, hi, rfl⟩ := List.mem_map.mp hx
    obtain ⟨a1, a2⟩ := h.2 i hi
    have a3 : i ≤ N - 1 := by omega
    simp [bindG_name, put, wipeE, evTs, evE, evEs, look, rdV, opt_some, bnd_ret, M.bnd, bin_subI, ok_whole, M.ret, a1, a3]
theorem asc_pair {m : Nat} {i j : Int} (h : 0 ≤ i ∧ i < j ∧ j < m) : Asc m [i, j] := by
  refine ⟨by simpa using h.2.1, fun x hx => ?_⟩
  rcases List.mem_cons.mp hx with rfl | hx
  · omega
  · rw [List.mem_singleton.mp hx]; omega
theorem ok_fpairs (n : Nat) (N : Int) {b p : Int} {ws : List Int} {prs : List (List Int)} (k : LOk b p ws prs) (hN : N = ws.length) (st : Sto) : callN ds (n + 3) 4 [.int N, QV prs] st = .ok (.bl true) st := by
  have q12 := k.q12
  have c1 : callN ds (n + 2) 1 [QV prs, .int 0, .int 12] st = .ok (.bl true) st := by
    unfold QV
    rw [ok_tupOf, List.length_map, decide_eq_true (by omega), decide_eq_true (by omega)]
    rfl
  have c2 : callN ds (n + 2) 2 [QV prs] st = .ok (.bl true) st := ok_rising (n + 1) _ (pairs_up prs k.up) st
  have h1 := fun Q : PV → Sto → Prop => wM_of (Q := Q) c1
  have h2 := fun Q : PV → Sto → Prop => wM_of (Q := Q) c2
  have es : seqOf (QV prs) = some (prs.map CV) := rfl
  apply wM_eq
  rw [wM_call (d := d4) rfl rfl]
  generalize QV prs = T at h1 h2 es ⊢
  simp [d4, enter, wS_cons, wS_nil, aft, finQ, wS_lift, wM_ret, wM_bnd, wM_nox, wM_some, opt_some, bnd_ret, evS, evE, evT, evBo, evBoT, evEs, evI, look, rdV, truthP, h1, es]
  rw [wM_of (compL_pure (fun _ => some (.bl true)) fun x hx => ?_)]
  · rw [all_tt]
    simp [wM_ret, wM_bnd, wM_some, wM_nox, wS_ok, wS_cons, wS_nil, wS_lift, aft, finQ, opt_some, bnd_ret, evS, evE, evBo, evEs, evI, look, rdV, es]
    rw [wM_of (compL_pure (fun _ => some (.bl true)) fun x hx => ?_)]
    · rw [all_tt]
      simp [wM_ret, wM_bnd, wM_some, h2, wS_ok, aft, finQ]
    · obtain ⟨q, hq, rfl⟩ := List.mem_map.mp hx
      obtain ⟨i, j, rfl, b1, b2, b3⟩ := k.q q hq
      have f := ok_fsome n ws.length N hN (asc_pair ⟨b1, b2, b3⟩) st
      simp [bindG_name, put, wipeE, evTs, evE, evEs, look, rdV, opt_some, bnd_ret, M.bnd, f, M.ret]
  · obtain ⟨q, hq, rfl⟩ := List.mem_map.mp hx
    obtain ⟨i, j, rfl, _⟩ := k.q q hq
    have f : callN ds (n + 2) 1 [CV [i, j], .int 2, .int 2] st = .ok (.bl true) st := ok_tupOf (n + 1) [.int i, .int j] 2 2 st
    simp [bindG_name, put, wipeE, evTs, evE, evEs, look, rdV, opt_some, bnd_ret, M.bnd, f, M.ret]
theorem maxF_int : ∀ (l : List Int) (x : Int), maxF (.int x) (l.map .int) = .int (maxI x l)
  | [], _ => rfl
  | y :: l, x => by
    unfold maxF
    rw [List.map_cons, List.foldl_cons]
    have : (if ltB (.int x) (.int y) = true then PV.int y else .int x) = .int (if x < y then y else x) := by
      simp only [ltB, decide_eq_true_eq]
      split <;> rfl
    rw [this]
    exact maxF_int l _
theorem max_CV {ws : List Int} (h : 1 ≤ ws.length) : ∃ mx, bfP .max [CV ws] = some (.int mx) ∧ mx ∈ ws ∧ ∀ x ∈ ws, x ≤ mx := by
  cases ws with
  | nil => simp at h
  | cons x l =>
    obtain ⟨h1, h2⟩ := maxI_ok l x
    refine ⟨maxI x l, ?_, h1, h2⟩
    have hall : alAll ((x :: l).map .int) = true := by
      unfold alAll
      rw [Bool.and_eq_true]
      refine ⟨okDs_all fun y hy => ?_, ?_⟩
      · obtain ⟨i, _, rfl⟩ := List.mem_map.mp hy
        exact okD_int _ _
      · rw [List.all_eq_true]
        intro y hy
        rw [List.all_eq_true]
        intro z hz
        obtain ⟨i, _, rfl⟩ := List.mem_map.mp hy
        obtain ⟨j, _, rfl⟩ := List.mem_map.mp hz
        rfl
    refine (if_pos hall).trans ?_
    exact congrArg some (maxF_int l x)
theorem ok_fload (n : Nat) {b p : Int} {ws : List Int} {prs : List (List Int)} (k : LOk b p ws prs) (st : Sto) : callN ds (n + 4) 5 [LV b p ws prs] st = .ok (.bl true) st := by
  have w1 := k.w1
  have w7 := k.w7
  have e0 := ix_L0 b p ws prs
  have e1 := ix_L1 b p ws prs
  have e2 := ix_L2 b p ws prs
  have e3 := ix_L3 b p ws prs
  have c1 : callN ds (n + 3) 1 [LV b p ws prs, .int 4, .int 4] st = .ok (.bl true) st := ok_tupOf (n + 2) [.int b, .int p, CV ws, QV prs] 4 4 st
  have c2 : callN ds (n + 3) 0 [.int b, .int 1, .int 200] st = .ok (.bl true) st := by
    rw [ok_whole, decide_eq_true k.b1, decide_eq_true k.b2]
    rfl
  have c3 : callN ds (n + 3) 0 [.int p, .int 1, .int 7] st = .ok (.bl true) st := by
    rw [ok_whole, decide_eq_true k.p1, decide_eq_true k.p7]
    rfl
  have c4 : callN ds (n + 3) 1 [CV ws, .int 1, .int 7] st = .ok (.bl true) st := by
    unfold CV
    rw [ok_tupOf, List.length_map, decide_eq_true (by omega), decide_eq_true (by omega)]
    rfl
  have c5 := ok_fpairs n _ k rfl st
  obtain ⟨mx, hm, hmm, _⟩ := max_CV w1
  have hb := (k.w mx hmm).2.2
  have hl := len_CV ws
  have h1 := fun Q : PV → Sto → Prop => wM_of (Q := Q) c1
  have h2 := fun Q : PV → Sto → Prop => wM_of (Q := Q) c2
  have h3 := fun Q : PV → Sto → Prop => wM_of (Q := Q) c3
  have h4 := fun Q : PV → Sto → Prop => wM_of (Q := Q) c4
  have h5 := fun Q : PV → Sto → Prop => wM_of (Q := Q) c5
  have es : seqOf (CV ws) = some (ws.map .int) := rfl
  apply wM_eq
  rw [wM_call (d := d5) rfl rfl]
  clear c1 c2 c3 c4 c5
  generalize LV b p ws prs = B at h1 e0 e1 e2 e3 ⊢
  generalize CV ws = T at h4 es e2 hm hl
  generalize QV prs = R at h5 e3
  generalize ((ws.length : Nat) : Int) = z at hl h5
  simp [d5, enter, wS_cons, wS_nil, aft, finQ, wS_lift, wS_ok, wM_ret, wM_bnd, wM_nox, wM_some, opt_some, bnd_ret, evS, evE, evT, evBo, evBoT, evEs, evI, look, rdV, truthP, e0, e1, e2, h1, h2, h3, h4, es]
  rw [wM_of (compL_pure (fun _ => some (.bl true)) fun x hx => ?_)]
  · rw [all_tt]
    simp [wM_ret, wM_bnd, wM_some, wM_nox, wS_ok, wS_cons, wS_nil, wS_lift, aft, finQ, opt_some, bnd_ret, evS, evE, evBo, evEs, look, rdV, e0, e2, e3, hm, hl, cmp_leI, hb, h5]
  · obtain ⟨i, hi, rfl⟩ := List.mem_map.mp hx
    obtain ⟨a1, a2, _⟩ := k.w i hi
    simp [bindG_name, put, wipeE, evTs, evE, evEs, look, rdV, opt_some, bnd_ret, M.bnd, ok_whole, M.ret, a1, a2]
theorem ok_nload (n : Nat) {b p : Int} {ws : List Int} {prs : List (List Int)} (k : LOk b p ws prs) (st : Sto) : callN ds (n + 5) 6 [LV b p ws prs] st = .ok .non st := by
  have h1 := fun Q : PV → Sto → Prop => wM_of (Q := Q) (ok_fload n k st)
  apply wM_eq
  rw [wM_call (d := d6) rfl rfl]
  generalize LV b p ws prs = B at h1 ⊢
  simp [d6, enter, wS_cons, wS_nil, aft, finQ, wS_lift, wS_ok, wM_ret, wM_bnd, wM_some, opt_some, bnd_ret, evS, evE, evT, evEs, look, rdV, truthP, h1]
/-! may -/
theorem ix_w {ws : List Int} {a : Int} (h : 0 ≤ a ∧ a < ws.length) : M.ix (CV ws) (.int a) = M.ret (.int (wt ws a)) := by
  unfold CV
  rw [ix_tup]
  unfold atL wt
  have : a.toNat < ws.length := by omega
  rw [if_pos h.1, List.getElem?_map, List.getElem?_eq_getElem this, List.getD_eq_getElem?_getD, List.getElem?_eq_getElem this]
  rfl
def gWt (ws : List Int) : PV → Option PV
  | .int a => some (.int (wt ws a))
  | _ => none
theorem gWt_map (ws : List Int) : ∀ s : List Int, (s.map PV.int).filterMap (gWt ws) = (s.map (wt ws)).map .int
  | [] => rfl
  | a :: s => by
    rw [List.map_cons, List.filterMap_cons_some (f := gWt ws) (b := PV.int (wt ws a)) rfl, gWt_map ws s]
    rfl
def swE (v vl : Nat) : E := .bc .sum (.cons (.comp (.ix (.ix (.var 0) (.int 2)) (.var v)) (.name v) (.val (.var vl)) .nil [v]) .nil)
theorem sw_ev (Φ : Nat → List PV → M PV) {b p : Int} {ws : List Int} {prs : List (List Int)} {lot : List Int} (hb : ∀ x ∈ lot, 0 ≤ x ∧ x < (ws.length : Int)) (env : En) (v vl : Nat) (h0 : look env 0 = .val (LV b p ws prs)) (hl : look env vl = .val (CV lot)) (hv : v < env.length) (hn : v ≠ 0) (st : Sto) : evE Φ (swE v vl) env st = .ok (.int (sumW ws lot)) st := by
  have es : seqOf (CV lot) = some (lot.map .int) := rfl
  have e2 := ix_L2 b p ws prs
  unfold swE
  apply wM_eq
  rw [evE, wM_bnd, evEs_cons, wM_bnd, evE, wM_bnd, evI, wM_bnd, evE, hl, rdV_val, wM_ret, es, wM_some, wM_bnd, wM_nox]
  rw [wM_of (compL_pure (gWt ws) fun x hx => ?_)]
  · have hs : bfP .sum [.lst ((lot.map (wt ws)).map .int)] = some (.int (sumW ws lot)) := by
      show (intsOf _).map _ = _
      rw [intsOf_map]
      rfl
    rw [gWt_map, wM_ret, wM_bnd, evEs, wM_ret, wM_ret, hs, wM_some]
    exact ⟨rfl, rfl⟩
  · obtain ⟨a, ha, rfl⟩ := List.mem_map.mp hx
    have hx := ix_w (hb a ha)
    rw [wipe1, bindG_name, if_pos (by rw [put_len]; exact hv)]
    have l1 : look (put (put env v .no) v (.val (.int a))) v = .val (.int a) := look_put_same (by rw [put_len]; exact hv)
    have l0 : look (put (put env v .no) v (.val (.int a))) 0 = .val (LV b p ws prs) := by rw [look_put_ne (Ne.symm hn), look_put_ne (Ne.symm hn)]; exact h0
    rw [show gWt ws (.int a) = some (.int (wt ws a)) from rfl]
    generalize put (put env v .no) v (.val (.int a)) = env' at l1 l0 ⊢
    generalize LV b p ws prs = B at e2 l0
    generalize CV ws = T at e2 hx
    generalize wt ws a = y at hx ⊢
    simp [evTs, evE, l1, l0, rdV, opt_some, bnd_ret, M.bnd, M.ret, e2, hx]
theorem in_CV (x : Int) (lot : List Int) : cmpP .isin (.int x) (CV lot) = some (.bl (decide (x ∈ lot))) := by
  have h : inL (.int x) (lot.map .int) = decide (x ∈ lot) := by
    unfold inL
    rw [Bool.eq_iff_iff, List.any_eq_true, decide_eq_true_eq]
    constructor
    · rintro ⟨y, hy, e⟩
      obtain ⟨z, hz, rfl⟩ := List.mem_map.mp hy
      simp only [eqB, beq_iff_eq] at e
      rw [← e]; exact hz
    · intro hm
      exact ⟨.int x, List.mem_map.mpr ⟨x, hm, rfl⟩, by simp [eqB]⟩
  show (if okD 30 (.int x) && okD 30 (CV lot) then some (PV.bl (inL (.int x) (lot.map .int))) else none) = _
  rw [okD_CV, okD_int, h]
  rfl
theorem notin_CV (x : Int) (lot : List Int) : cmpP .notin (.int x) (CV lot) = some (.bl (!decide (x ∈ lot))) := by
  have h := in_CV x lot
  have e : (if okD 30 (.int x) && okD 30 (CV lot) then some (PV.bl (inL (.int x) (lot.map .int))) else none) = some (.bl (decide (x ∈ lot))) := h
  show (if okD 30 (.int x) && okD 30 (CV lot) then some (PV.bl (!inL (.int x) (lot.map .int))) else none) = _
  rw [okD_CV, okD_int] at e ⊢
  simp only [Bool.and_self, if_true, Option.some.injEq, PV.bl.injEq] at e ⊢
  rw [e]
end Lw

/-! F6: lots that may. -/
namespace Lw
open PySem PySem.Spec Pv
def Bd (m : Nat) (lot : List Int) : Prop := ∀ x ∈ lot, 0 ≤ x ∧ x < (m : Int)
theorem ok_weight (n : Nat) {b p : Int} {ws : List Int} {prs : List (List Int)} {lot : List Int} (hb : Bd ws.length lot) (st : Sto) : callN ds (n + 1) 7 [LV b p ws prs, CV lot] st = .ok (.int (sumW ws lot)) st := by
  apply wM_eq
  rw [wM_call (d := d7) rfl rfl]
  show wS (evSs (callN ds n) (.cons (.ret (swE 2 1)) .nil) [.val (LV b p ws prs), .val (CV lot), .no] st) _
  rw [wS_ret, wM_of (sw_ev _ hb _ 2 1 rfl rfl (by show 2 < 3; decide) (by decide) st)]
  exact ⟨rfl, rfl⟩
theorem bls_map {α : Type} (f : α → Bool) : ∀ l : List α, blsOf (l.map fun q => .bl (f q)) = some (l.map f)
  | [] => rfl
  | x :: l => by simp [blsOf, bls_map f l]
def gHas (lot : List Int) : PV → Option PV := fun q => some (.bl (hasP lot (keyD q)))
theorem gHas_map (lot : List Int) : ∀ prs : List (List Int), (prs.map CV).filterMap (gHas lot) = prs.map fun q => .bl (hasP lot q)
  | [] => rfl
  | q :: prs => by
    rw [List.map_cons, List.filterMap_cons_some (b := .bl (hasP lot q)) (by unfold gHas; rw [keyD_CV]), gHas_map lot prs]
    rfl
theorem any_has (lot : List Int) (prs : List (List Int)) : bfP .any [.lst ((prs.map CV).filterMap (gHas lot))] = some (.bl (prs.any (hasP lot))) := by
  show (blsOf _).map _ = _
  rw [gHas_map, bls_map, Option.map_some, List.any_map]
  rfl
theorem ok_may (n : Nat) {b p : Int} {ws : List Int} {prs : List (List Int)} (k : LOk b p ws prs) {lot : List Int} (hb : Bd ws.length lot) (st : Sto) : callN ds (n + 2) 8 [LV b p ws prs, CV lot] st = .ok (.bl (may b p ws prs lot)) st := by
  have e0 := ix_L0 b p ws prs
  have e1 := ix_L1 b p ws prs
  have e3 := ix_L3 b p ws prs
  have c1 := ok_weight n (b := b) (p := p) (prs := prs) hb st
  have h1 := fun Q : PV → Sto → Prop => wM_of (Q := Q) c1
  have hl := len_CV lot
  have es : seqOf (QV prs) = some (prs.map CV) := rfl
  have hin := fun x => in_CV x lot
  have ha := any_has lot prs
  apply wM_eq
  rw [wM_call (d := d8) rfl rfl]
  unfold may
  clear c1
  generalize LV b p ws prs = B at h1 e0 e1 e3 ⊢
  generalize CV lot = T at h1 hl hin ⊢
  generalize QV prs = R at es e3
  generalize ((lot.length : Nat) : Int) = z at hl ⊢
  generalize sumW ws lot = s at h1 ⊢
  by_cases a1 : s ≤ b
  · have a1' : ¬ b < s := by omega
    by_cases a2 : z ≤ p
    · have a2' : ¬ p < z := by omega
      simp [d8, enter, wS_cons, wS_nil, aft, finQ, wS_lift, wS_ok, wM_ret, wM_bnd, wM_nox, wM_some, opt_some, bnd_ret, evS, evE, evT, evBoT, evEs, evI, look, rdV, truthP, e0, e1, e3, h1, hl, es, cmp_gtI, a1', a2', a1, a2]
      rw [wM_of (compL_pure (gHas lot) fun x hx => ?_)]
      · rw [ha]
        simp [wM_some, wM_ret, wM_bnd, wS_ok, aft, finQ]
      · obtain ⟨q, hq, rfl⟩ := List.mem_map.mp hx
        obtain ⟨i, j, rfl, _⟩ := k.q q hq
        have hi := hin i
        have hj := hin j
        unfold gHas
        rw [keyD_CV]
        rw [show CV [i, j] = PV.tup [.int i, .int j] from rfl]
        simp only [bindG_tup, bindGs_cons, bindG_name, bindGs_nil]
        simp [put, wipeE]
        by_cases d1 : i ∈ lot <;> by_cases d2 : j ∈ lot <;> simp [evTs, evE, evBo, look, rdV, opt_some, bnd_ret, M.bnd, M.ret, hi, hj, d1, d2, hasP]
    · have a2' : p < z := by omega
      simp [d8, enter, wS_cons, wS_nil, aft, finQ, wS_lift, wS_ok, wM_ret, wM_bnd, wM_nox, wM_some, opt_some, bnd_ret, evS, evE, evT, evBoT, evEs, evI, look, rdV, truthP, e0, e1, h1, hl, cmp_gtI, a1', a2', a1, a2]
  · have a1' : b < s := by omega
    simp [d8, enter, wS_cons, wS_nil, aft, finQ, wS_lift, wS_ok, wM_ret, wM_bnd, wM_nox, wM_some, opt_some, bnd_ret, evS, evE, evT, evBoT, evEs, evI, look, rdV, truthP, e0, h1, cmp_gtI, a1', a1]
theorem eq_nilL (l : List (List Int)) : cmpP .eq (.lst (l.map CV)) (.lst []) = some (.bl l.isEmpty) := by
  show (eqP (.lst (l.map CV)) (.lst [])).map PV.bl = _
  rw [eq_nil fun x hx => ?_]
  · simp
  · obtain ⟨c, _, rfl⟩ := List.mem_map.mp hx
    exact okD_CV 28 c
theorem filter_emp (f : List Int → Bool) : ∀ r : List (List Int), (r.filter f).isEmpty = !r.any f
  | [] => rfl
  | q :: r => by
    by_cases h : f q = true
    · simp [h]
    · rw [List.filter_cons_of_neg h, List.any_cons, Bool.eq_false_iff.mpr h, Bool.false_or]; exact filter_emp f r
def RF : Ss := .cons (.ret (.bl false)) .nil
def mcT : T := .bo false (.cons (.cmp .gt (swE 3 1) (.ix (.var 0) (.int 0))) (.cons (.cmp .gt (.bc .len (.cons (.var 1) .nil)) (.ix (.var 0) (.int 1))) .nil))
def mlE : E := .comp (.var 2) (.name 2) (.val (.ix (.var 0) (.int 3))) (.cons (.bo true (.cons (.cmp .isin (.ix (.var 2) (.int 0)) (.var 1)) (.cons (.cmp .isin (.ix (.var 2) (.int 1)) (.var 1)) .nil))) .nil) [2]
theorem ok_lmay (n : Nat) {b p : Int} {ws : List Int} {prs : List (List Int)} (k : LOk b p ws prs) {lot : List Int} (hb : Bd ws.length lot) (st : Sto) : callN ds (n + 1) 27 [LV b p ws prs, CV lot] st = .ok (.bl (may b p ws prs lot)) st := by
  have e0 := ix_L0 b p ws prs
  have e1 := ix_L1 b p ws prs
  have e3 := ix_L3 b p ws prs
  have hs := sw_ev (callN ds n) (b := b) (p := p) (prs := prs) hb [.val (LV b p ws prs), .val (CV lot), .no, .no] 3 1 rfl rfl (by show 3 < 4; decide) (by decide) st
  have hl := len_CV lot
  have es : seqOf (QV prs) = some (prs.map CV) := rfl
  have hin := fun x => in_CV x lot
  have he := eq_nilL (prs.filter (hasP lot))
  rw [filter_emp] at he
  have hc : evT (callN ds n) mcT [.val (LV b p ws prs), .val (CV lot), .no, .no] st = .ok (!(decide (sumW ws lot ≤ b) && decide ((lot.length : Int) ≤ p))) st := by
    unfold mcT
    generalize swE 3 1 = E1 at hs ⊢
    generalize LV b p ws prs = B at e0 e1 hs ⊢
    generalize CV lot = T at hl hs ⊢
    generalize ((lot.length : Nat) : Int) = z at hl ⊢
    generalize sumW ws lot = s at hs ⊢
    by_cases a1 : s ≤ b
    · have a1' : ¬ b < s := by omega
      by_cases a2 : z ≤ p
      · have a2' : ¬ p < z := by omega
        simp [evT, evBoT, evE, evEs, look, rdV, opt_some, bnd_ret, M.bnd, M.ret, hs, e0, e1, hl, cmp_gtI, truthP, a1, a1', a2, a2']
      · have a2' : p < z := by omega
        simp [evT, evBoT, evE, evEs, look, rdV, opt_some, bnd_ret, M.bnd, M.ret, hs, e0, e1, hl, cmp_gtI, truthP, a1, a1', a2, a2']
    · have a1' : b < s := by omega
      simp [evT, evBoT, evE, evEs, look, rdV, opt_some, bnd_ret, M.bnd, M.ret, hs, e0, cmp_gtI, truthP, a1, a1']
  have hm : evE (callN ds n) mlE [.val (LV b p ws prs), .val (CV lot), .no, .no] st = .ok (.lst ((prs.filter (hasP lot)).map CV)) st := by
    unfold mlE
    clear hc hs
    generalize LV b p ws prs = B at e3 ⊢
    generalize CV lot = T at hin ⊢
    generalize QV prs = R at es e3
    have ei : evI (callN ds n) (.val (.ix (.var 0) (.int 3))) [.val B, .val T, .no, .no] st = .ok (prs.map CV) st := by
      simp [evI, evE, look, rdV, opt_some, bnd_ret, e3, es, M.ret]
    apply wM_eq
    rw [evE, wM_bnd, wM_of ei, wM_bnd, wM_nox]
    rw [wM_of (compL_pure (gC (hasP lot)) fun x hx => ?_)]
    · rw [gC_map]
      exact ⟨rfl, rfl⟩
    · obtain ⟨q, hq, rfl⟩ := List.mem_map.mp hx
      obtain ⟨i, j, rfl, _⟩ := k.q q hq
      have hi := hin i
      have hj := hin j
      have x0 : M.ix (CV [i, j]) (.int 0) = M.ret (.int i) := rfl
      have x1 : M.ix (CV [i, j]) (.int 1) = M.ret (.int j) := rfl
      unfold gC
      rw [keyD_CV]
      generalize CV [i, j] = Z at x0 x1 ⊢
      simp only [bindG_name]
      simp [put, wipeE]
      by_cases d1 : i ∈ lot <;> by_cases d2 : j ∈ lot <;> simp [evTs, evT, evBoT, evE, look, rdV, opt_some, bnd_ret, M.bnd, M.ret, x0, x1, hi, hj, d1, d2, hasP, truthP]
  apply wM_eq
  rw [wM_call (d := d27) rfl rfl]
  show wS (evSs (callN ds n) (.cons (.ife mcT RF .nil) (.cons (.ret (.cmp .eq mlE (.lst .nil))) .nil)) [.val (LV b p ws prs), .val (CV lot), .no, .no] st) _
  unfold may
  cases hq : (decide (sumW ws lot ≤ b) && decide ((lot.length : Int) ≤ p)) with
  | true =>
    rw [hq] at hc
    rw [wS_ifF hc, wS_ret, evE, wM_bnd, wM_of hm, wM_bnd, evE, evEs, bnd_ret, wM_ret, he, wM_some]
    exact ⟨rfl, rfl⟩
  | false =>
    rw [hq] at hc
    rw [wS_ifT hc]
    show wS (evSs (callN ds n) (.cons (.ret (.bl false)) .nil) _ st) _
    rw [wS_ret, evE, wM_ret]
    exact ⟨rfl, rfl⟩
end Lw

/-! F7: full lots, clashes. -/
namespace Lw
open PySem PySem.Spec Pv
theorem filter_filter' {α : Type} {f g : α → Bool} (h : ∀ x, g x = true → f x = true) : ∀ l : List α, (l.filter f).filter g = l.filter g
  | [] => rfl
  | x :: l => by
    by_cases hg : g x = true
    · rw [List.filter_cons_of_pos (h x hg), List.filter_cons_of_pos hg, List.filter_cons_of_pos hg, filter_filter' h l]
    · rw [List.filter_cons_of_neg hg]
      by_cases hf : f x = true
      · rw [List.filter_cons_of_pos hf, List.filter_cons_of_neg hg, filter_filter' h l]
      · rw [List.filter_cons_of_neg hf, filter_filter' h l]
theorem inL_CV (x : List Int) (l : List (List Int)) : cmpP .isin (CV x) (.lst (l.map CV)) = some (.bl (decide (x ∈ l))) := by
  have h : inL (CV x) (l.map CV) = decide (x ∈ l) := by
    unfold inL
    rw [Bool.eq_iff_iff, List.any_eq_true, decide_eq_true_eq]
    constructor
    · rintro ⟨y, hy, e⟩
      obtain ⟨z, hz, rfl⟩ := List.mem_map.mp hy
      rw [eqB_CV, decide_eq_true_eq] at e
      rw [← e]; exact hz
    · intro hm
      exact ⟨CV x, List.mem_map.mpr ⟨x, hm, rfl⟩, by rw [eqB_CV]; simp⟩
  have h1 : okD 30 (.lst (l.map CV)) = true := by
    unfold okD
    exact okDs_all fun y hy => by
      obtain ⟨c, _, rfl⟩ := List.mem_map.mp hy
      exact okD_CV 28 c
  show (if okD 30 (CV x) && okD 30 (.lst (l.map CV)) then some (PV.bl (inL (CV x) (l.map CV))) else none) = _
  rw [okD_CV, h1, h]
  rfl
def leI (x y : Int) : Bool := !decide (y < x)
theorem srt_int (s : List Int) (hl : s.length ≤ 1000) : bfP .sorted [CV s] = some (.lst ((s.mergeSort leI).map .int)) := by
  have h : srtOk (s.map .int) = true := by
    unfold srtOk alAll
    rw [Bool.and_eq_true, Bool.and_eq_true, Bool.or_eq_true]
    refine ⟨⟨okDs_all fun x hx => ?_, ?_⟩, .inr ?_⟩
    · obtain ⟨c, _, rfl⟩ := List.mem_map.mp hx
      exact okD_int _ _
    · rw [List.all_eq_true]
      intro x hx
      rw [List.all_eq_true]
      intro y hy
      obtain ⟨c, _, rfl⟩ := List.mem_map.mp hx
      obtain ⟨d, _, rfl⟩ := List.mem_map.mp hy
      rfl
    · rw [List.all_eq_true]
      intro x hx
      obtain ⟨c, _, rfl⟩ := List.mem_map.mp hx
      rfl
  show sortP (s.map .int) = _
  unfold sortP
  rw [if_pos ⟨h, by rw [List.length_map]; omega⟩]
  congr 2
  exact (List.map_mergeSort fun a _ b _ => by unfold leI leB ltB; rfl).symm
theorem srt_ins {m : Nat} {a : Int} {lot : List Int} (ha : 0 ≤ a ∧ a < m) (h : Asc m lot) (hn : a ∉ lot) (hl : lot.length ≤ 100) : bfP .sorted [CV (lot ++ [a])] = some (.lst ((ins a lot).map .int)) := by
  rw [srt_int _ (by simp; omega)]
  have hp := List.mergeSort_perm (lot ++ [a]) leI
  have hs := List.pairwise_mergeSort (le := leI) (fun a b c h1 h2 => by unfold leI at *; simp at *; omega) (fun a b => by unfold leI; simp; omega) (lot ++ [a])
  rw [sorted_ins (ins_asc ha h hn).1 _ hp (hs.imp fun h => by unfold leI at h; simpa using h)]
theorem keys_srt {ks : List (List Int)} (hc : ∀ c ∈ ks, c ≠ []) (hl : ks.length ≤ 1000000) : bfP .sorted [.lst (ks.map CV)] = some (.lst ((ks.mergeSort leL).map CV)) := by
  have h : srtOk (ks.map CV) = true := by
    unfold srtOk alAll
    rw [Bool.and_eq_true, Bool.and_eq_true, Bool.or_eq_true]
    refine ⟨⟨okDs_all fun x hx => ?_, ?_⟩, .inl ?_⟩
    · obtain ⟨c, _, rfl⟩ := List.mem_map.mp hx
      exact okD_CV 28 c
    · rw [List.all_eq_true]
      intro x hx
      rw [List.all_eq_true]
      intro y hy
      obtain ⟨c, _, rfl⟩ := List.mem_map.mp hx
      obtain ⟨d, _, rfl⟩ := List.mem_map.mp hy
      exact alI_CV c d
    · rw [List.all_eq_true]
      intro x hx
      obtain ⟨c, h, rfl⟩ := List.mem_map.mp hx
      have := hc c h
      cases c with
      | nil => exact absurd rfl this
      | cons a r => rfl
  show sortP (ks.map CV) = _
  unfold sortP
  rw [if_pos ⟨h, by rw [List.length_map]; exact hl⟩, srt_CV]
theorem srt_lst (ks : List PV) : bfP .sorted [.lst ks] = sortP ks := rfl
end Lw

/-! F9: all bags, the fewest. -/
namespace Lw
open PySem PySem.Spec Pv
def BG (bags : List (List Int)) : PV := .tup (bags.map CV)
def bgOf : PV → List (List Int)
  | .tup xs => xs.map keyD
  | _ => []
theorem bgOf_BG (bags : List (List Int)) : bgOf (BG bags) = bags := by
  show (bags.map CV).map keyD = bags
  rw [List.map_map]
  conv => rhs; rw [← List.map_id' (l := bags)]
  exact List.map_congr_left fun c _ => keyD_CV c
theorem len_BG (bags : List (List Int)) : bfP .len [BG bags] = some (.int (bags.length : Nat)) := by
  show some (PV.int ((bags.map CV).length : Nat)) = _
  rw [List.length_map]
theorem addBB (a b : List (List Int)) (h : a.length + b.length ≤ 1000000) : binP .add (BG a) (BG b) = some (BG (a ++ b)) := by
  unfold BG
  show (if _ then _ else _) = _
  rw [if_pos (by simpa using h), List.map_append]
theorem ok_put (n : Nat) (bags : List (List Int)) (a K : Int) (k : Nat) (hK : K = k) (hk : k ≤ bags.length) (hb : bags.length ≤ 1000) (hs : ∀ s ∈ bags, s.length ≤ 1000) (st : Sto) : callN ds (n + 1) 10 [BG bags, .int a, .int K] st = .ok (BG (putIn bags a k)) st := by
  have hl := len_BG bags
  apply wM_eq
  rw [wM_call (d := d10) rfl rfl]
  unfold putIn
  by_cases e : k = bags.length
  · rw [if_pos e]
    have h1 := addBB bags [[a]] (by simp; omega)
    have h2 : PV.tup [.tup [.int a]] = BG [[a]] := rfl
    have h3 : K = (bags.length : Int) := by omega
    generalize BG (bags ++ [[a]]) = R at h1 ⊢
    generalize BG [[a]] = Y at h1 h2
    generalize BG bags = B at hl h1 ⊢
    generalize ((bags.length : Nat) : Int) = z at hl h3
    subst h3
    simp [d10, enter, wS_cons, wS_nil, aft, finQ, wS_lift, wS_ok, wM_ret, wM_bnd, wM_some, opt_some, bnd_ret, evS, evE, evT, evEs, look, rdV, truthP, hl, cmp_eqI, h1, h2]
  · rw [if_neg e]
    have hlt : k < bags.length := by omega
    have h3 : ¬ K = (bags.length : Int) := by omega
    have s1 : slP (BG bags) none (some K) = some (BG (bags.take k)) := by
      rw [hK]
      show some (PV.tup (cutL (bags.map CV) none (some (k : Int)))) = _
      rw [cut_lo _ _ (by rw [List.length_map]; omega)]
      unfold BG
      rw [List.map_take]
    have s2 : slP (BG bags) (some (K + 1)) none = some (BG (bags.drop (k + 1))) := by
      rw [hK, show (k : Int) + 1 = ((k + 1 : Nat) : Int) by omega]
      show some (PV.tup (cutL (bags.map CV) (some ((k + 1 : Nat) : Int)) none)) = _
      rw [cut_hi _ _ (by rw [List.length_map]; omega)]
      unfold BG
      rw [List.map_drop]
    have x1 : M.ix (BG bags) (.int K) = M.ret (CV (bags.getD k [])) := by
      have := ix_T bags K (by omega) (by omega)
      rw [show K.toNat = k by omega] at this
      exact this
    have hgl : (bags.getD k []).length ≤ 1000 := by
      rw [List.getD_eq_getElem?_getD, List.getElem?_eq_getElem hlt]
      exact hs _ (List.getElem_mem hlt)
    have a1 := addCV (bags.getD k []) a hgl
    have h2 : PV.tup [CV (bags.getD k [] ++ [a])] = BG [bags.getD k [] ++ [a]] := rfl
    have a2 := addBB (bags.take k) [bags.getD k [] ++ [a]] (by simp; omega)
    have a3 := addBB (bags.take k ++ [bags.getD k [] ++ [a]]) (bags.drop (k + 1)) (by simp; omega)
    generalize BG (bags.take k ++ [bags.getD k [] ++ [a]] ++ bags.drop (k + 1)) = R at a3 ⊢
    generalize BG (bags.take k ++ [bags.getD k [] ++ [a]]) = R2 at a2 a3
    generalize BG [bags.getD k [] ++ [a]] = R3 at a2 h2
    generalize CV (bags.getD k [] ++ [a]) = R4 at a1 h2
    generalize CV (bags.getD k []) = R5 at x1 a1
    generalize BG (bags.take k) = R6 at s1 a2
    generalize BG (bags.drop (k + 1)) = R7 at s2 a3
    generalize BG bags = B at hl s1 s2 x1 ⊢
    generalize ((bags.length : Nat) : Int) = z at hl h3
    clear hK
    simp [d10, enter, wS_cons, wS_nil, aft, finQ, wS_lift, wS_ok, wM_ret, wM_bnd, wM_some, opt_some, bnd_ret, evS, evE, evT, evEs, evOe, look, rdV, truthP, hl, cmp_eqI, h3, s1, x1, a1, h2, a2, bin_addI, s2, a3]
def gRw (a : Int) : PV → List PV := fun p => (List.range ((bgOf p).length + 1)).map fun k => BG (putIn (bgOf p) a k)
theorem gRw_map (a : Int) : ∀ line : List (List (List Int)), (line.map BG).flatMap (gRw a) = (rowsA line a).map BG
  | [] => rfl
  | bags :: line => by
    rw [List.map_cons, List.flatMap_cons, gRw_map a line]
    unfold rowsA gRw
    rw [List.flatMap_cons, List.map_append, bgOf_BG, List.map_map]
    rfl
def gRk (bags : List (List Int)) (a : Int) : PV → Option PV
  | .int k => some (BG (putIn bags a k.toNat))
  | _ => none
theorem r1_succ (N : Int) (m : Nat) (hN : N = m) (h : m ≤ 100) : range1 (.int (N + 1)) = some ((List.range (m + 1)).map fun (i : Nat) => PV.int (i : Int)) := by
  rw [hN, ← show ((m + 1 : Nat) : Int) = (m : Int) + 1 from by omega]
  exact r1_nat (by omega)
def r3E : E := .comp2 (.call 10 (.cons (.var 4) (.cons (.var 2) (.cons (.var 5) .nil)))) (.name 4) (.val (.var 1)) .nil (.name 5) (.r1 (.bin .add (.bc .len (.cons (.var 4) .nil)) (.int 1))) .nil [4, 5] [5]
theorem r3_in (ff : Nat → List PV → M PV) {B L G : PV} {A z : Int} {RR : List PV} {gg : PV → Option PV} {st : Sto} (hl : bfP .len [G] = some (.int z)) (hr : range1 (.int (z + 1)) = some RR) : evI ff (.r1 (.bin .add (.bc .len (.cons (.var 4) .nil)) (.int 1))) [.val B, .val L, .val (.int A), .no, .val G, .no, .no] st = .ok RR st := by
  have hz := bin_addI z 1
  generalize z + 1 = w at hr hz
  simp [evI, evE, evEs, look, rdV, opt_some, bnd_ret, hl, hz, hr, M.ret]
theorem r3_el (ff : Nat → List PV → M PV) {B L G Y : PV} {A J : Int} {st : Sto} (h : ff 10 [G, .int A, .int J] st = .ok Y st) : evE ff (.call 10 (.cons (.var 4) (.cons (.var 2) (.cons (.var 5) .nil)))) [.val B, .val L, .val (.int A), .no, .val G, .val (.int J), .no] st = .ok Y st := by
  simp [evE, evEs, look, rdV, opt_some, bnd_ret, M.bnd, M.ret, h]
theorem r3_gen (ff : Nat → List PV → M PV) {B L : PV} {A : Int} {xs : List PV} {st : Sto} (es : seqOf L = some xs) (g : PV → List PV) (hlen : (xs.flatMap g).length ≤ 1000000)
    (hg : ∀ G ∈ xs, ∃ z RR gg, bfP .len [G] = some (.int z) ∧ range1 (.int (z + 1)) = some RR ∧ g G = RR.filterMap gg ∧ ∀ y ∈ RR, ∃ J Y, y = .int J ∧ gg y = some Y ∧ ff 10 [G, .int A, .int J] st = .ok Y st) :
    evE ff r3E [.val B, .val L, .val (.int A), .no, .no, .no, .no] st = .ok (.lst (xs.flatMap g)) st := by
  unfold r3E
  have ei : evI ff (.val (.var 1)) [.val B, .val L, .val (.int A), .no, .no, .no, .no] st = .ok xs st := by
    simp [evI, evE, look, rdV, opt_some, bnd_ret, es, M.ret]
  apply wM_eq
  rw [evE, wM_bnd, wM_of ei, wM_bnd, wM_nox]
  rw [wM_of (compLL_pure g fun G hx => ?_)]
  · rw [if_pos hlen, wM_ret]
    exact ⟨rfl, rfl⟩
  · obtain ⟨z, RR, gg, h1, h2, h3, h4⟩ := hg G hx
    have ei2 := r3_in ff (B := B) (L := L) (A := A) (gg := gg) (st := st) h1 h2
    rw [h3]
    simp only [bindG_name, List.length_cons, List.length_nil, wipeE, put, if_pos (show 4 < 0 + 1 + 1 + 1 + 1 + 1 + 1 + 1 by decide)]
    simp only [evTs, bnd_ret]
    apply wM_eq
    rw [wM_bnd, wM_of ei2, wM_of (compL_pure gg fun y hy => ?_)]
    · exact ⟨rfl, rfl⟩
    · obtain ⟨J, Y, rfl, h5, h6⟩ := h4 y hy
      have e5 := r3_el ff (B := B) (L := L) h6
      rw [h5]
      simp only [bindG_name, List.length_cons, List.length_nil, wipeE, put, if_pos (show 5 < 0 + 1 + 1 + 1 + 1 + 1 + 1 + 1 by decide)]
      generalize (E.call 10 (.cons (.var 4) (.cons (.var 2) (.cons (.var 5) .nil)))) = E1 at e5 ⊢
      simp [evTs, bnd_ret, M.bnd, M.ret, e5]
theorem r3_ev (n : Nat) {my : List Int → Bool} {i : Nat} (hi : i ≤ 7) (A : Int) (B : PV) (st : Sto) : evE (callN ds (n + 1)) r3E [.val B, .val (.lst ((allA my i).map BG)), .val (.int A), .no, .no, .no, .no] st = .ok (.lst ((rowsA (allA my i) A).map BG)) st := by
  have hlen : (((allA my i).map BG).flatMap (gRw A)).length ≤ 1000000 := by
    rw [gRw_map, List.length_map]
    have h1 := rowsA_len (my := my) (n := i) A (allA my i) fun b hb => (allA_ok my i b hb).len
    have h2 := allA_len my i
    have h3 : fac i ≤ 5040 := by
      have : ∀ j : Fin 8, fac j.val ≤ 5040 := by decide
      exact this ⟨i, by omega⟩
    have h4 := Nat.le_trans h1 (Nat.mul_le_mul (Nat.le_trans h2 h3) (show i + 1 ≤ 8 by omega))
    omega
  rw [← gRw_map]
  refine r3_gen _ rfl (gRw A) hlen fun G hG => ?_
  obtain ⟨bags, hb, rfl⟩ := List.mem_map.mp hG
  have ok := allA_ok my i bags hb
  have hbl := ok.len
  obtain ⟨z, hz⟩ : ∃ z : Int, z = (bags.length : Int) := ⟨_, rfl⟩
  refine ⟨z, _, gRk bags A, by rw [hz]; exact len_BG bags, r1_succ z bags.length hz (by omega), ?_, fun y hy => ?_⟩
  · unfold gRw
    rw [bgOf_BG, List.filterMap_map, ← List.filterMap_eq_map]
    rfl
  · obtain ⟨j, hj, rfl⟩ := List.mem_map.mp hy
    have hj := List.mem_range.mp hj
    exact ⟨j, BG (putIn bags A j), rfl, rfl, ok_put n bags A j j rfl (by omega) (by omega) (fun s hs => by have := asc_len (ok.my s hs).2; omega) st⟩
def gB (f : List (List Int) → Bool) : PV → Option PV := fun p => if f (bgOf p) = true then some p else none
theorem gB_map (f : List (List Int) → Bool) : ∀ l : List (List (List Int)), (l.map BG).filterMap (gB f) = (l.filter f).map BG
  | [] => rfl
  | c :: cs => by
    by_cases h : f c = true
    · rw [List.map_cons, List.filterMap_cons_some (b := BG c) (by unfold gB; rw [bgOf_BG, if_pos h]), gB_map f cs, List.filter_cons_of_pos h]
      rfl
    · rw [List.map_cons, List.filterMap_cons_none (by unfold gB; rw [bgOf_BG, if_neg h]), gB_map f cs, List.filter_cons_of_neg h]
def gMy (my : List Int → Bool) : PV → Option PV := fun p => some (.bl (my (keyD p)))
theorem gMy_map (my : List Int → Bool) : ∀ l : List (List Int), (l.map CV).filterMap (gMy my) = l.map fun s => .bl (my s)
  | [] => rfl
  | q :: l => by
    rw [List.map_cons, List.filterMap_cons_some (b := .bl (my q)) (by unfold gMy; rw [keyD_CV]), gMy_map my l]
    rfl
def f4E : E := .comp (.var 4) (.name 4) (.val (.var 3)) (.cons (.e (.bc .all (.cons (.comp (.call 8 (.cons (.var 0) (.cons (.var 6) .nil))) (.name 6) (.val (.var 4)) .nil [6]) .nil))) .nil) [4]
theorem f4_ev (n : Nat) {b p : Int} {ws : List Int} {prs : List (List Int)} (k : LOk b p ws prs) {rows : List (List (List Int))} (hr : ∀ r ∈ rows, ∀ lot ∈ r, Bd ws.length lot) (s1 s2 : Slot) (st : Sto) : evE (callN ds (n + 2)) f4E [.val (LV b p ws prs), s1, s2, .val (.lst (rows.map BG)), .no, .no, .no] st = .ok (.lst ((rows.filter fun r => r.all (may b p ws prs)).map BG)) st := by
  have hmay := fun s (hs : Bd ws.length s) => ok_may n k hs st
  generalize may b p ws prs = my at hmay ⊢
  have es : seqOf (.lst (rows.map BG)) = some (rows.map BG) := rfl
  generalize LV b p ws prs = B at hmay ⊢
  generalize PV.lst (rows.map BG) = L at es ⊢
  have ei : evI (callN ds (n + 2)) (.val (.var 3)) [.val B, s1, s2, .val L, .no, .no, .no] st = .ok (rows.map BG) st := by
    simp [evI, evE, look, rdV, opt_some, bnd_ret, es, M.ret]
  unfold f4E
  apply wM_eq
  rw [evE, wM_bnd, wM_of ei, wM_bnd, wM_nox]
  rw [wM_of (compL_pure (gB fun r => r.all my) fun x hx => ?_)]
  · rw [gB_map]
    exact ⟨rfl, rfl⟩
  · obtain ⟨r, hrm, rfl⟩ := List.mem_map.mp hx
    have hrl := hr r hrm
    have es2 : seqOf (BG r) = some (r.map CV) := rfl
    have ha : bfP .all [.lst ((r.map CV).filterMap (gMy my))] = some (.bl (r.all my)) := by
      show (blsOf _).map _ = _
      rw [gMy_map, bls_map, Option.map_some, List.all_map]
      rfl
    have hall : evE (callN ds (n + 2)) (.bc .all (.cons (.comp (.call 8 (.cons (.var 0) (.cons (.var 6) .nil))) (.name 6) (.val (.var 4)) .nil [6]) .nil)) [.val B, s1, s2, .val L, .val (BG r), .no, .no] st = .ok (.bl (r.all my)) st := by
      have ei2 : evI (callN ds (n + 2)) (.val (.var 4)) [.val B, s1, s2, .val L, .val (BG r), .no, .no] st = .ok (r.map CV) st := by
        generalize BG r = G at es2 ⊢
        simp [evI, evE, look, rdV, opt_some, bnd_ret, es2, M.ret]
      apply wM_eq
      rw [evE, wM_bnd, evEs_cons, wM_bnd, evE, wM_bnd, wM_of ei2, wM_bnd, wM_nox]
      rw [wM_of (compL_pure (gMy my) fun y hy => ?_)]
      · rw [wM_ret, wM_bnd, evEs, wM_ret, wM_ret, ha, wM_some]
        exact ⟨rfl, rfl⟩
      · obtain ⟨s, hs, rfl⟩ := List.mem_map.mp hy
        have q := hmay s (hrl s hs)
        unfold gMy
        rw [keyD_CV]
        generalize CV s = S at q ⊢
        generalize BG r = G
        simp only [bindG_name]
        simp [put, wipeE]
        simp [evTs, evE, evEs, look, rdV, opt_some, bnd_ret, M.bnd, M.ret, q]
    unfold gB
    rw [bgOf_BG]
    simp only [bindG_name]
    simp only [List.length_cons, List.length_nil, wipeE, put, if_pos (show 4 < 0 + 1 + 1 + 1 + 1 + 1 + 1 + 1 by decide)]
    generalize (E.bc .all (.cons (.comp (.call 8 (.cons (.var 0) (.cons (.var 6) .nil))) (.name 6) (.val (.var 4)) .nil [6]) .nil)) = E1 at hall ⊢
    generalize BG r = G at hall ⊢
    by_cases hb : r.all my = true
    · rw [hb] at hall
      rw [if_pos hb]
      simp [evTs, evT, evE, look, rdV, opt_some, bnd_ret, M.bnd, M.ret, hall, truthP]
    · rw [Bool.eq_false_iff.mpr hb] at hall
      rw [if_neg hb]
      simp [evTs, evT, evE, look, rdV, opt_some, bnd_ret, M.bnd, M.ret, hall, truthP]
def leG (a b : List (List Int)) : Bool := leB (BG a) (BG b)
def srtA (my : List Int → Bool) (m : Nat) : List (List (List Int)) := (allA my m).mergeSort leG
theorem alI_BG (a b : List (List Int)) : alI (BG a) (BG b) = true := by
  unfold BG
  rw [alI]
  induction a generalizing b with
  | nil => simp [alIs]
  | cons x a ih =>
    cases b with
    | nil => simp [alIs]
    | cons y b => simp [alIs, alI_CV, ih b]
theorem okD_BG (n : Nat) (a : List (List Int)) : okD (n + 2) (BG a) = true := by
  unfold BG okD
  exact okDs_all fun x hx => by
    obtain ⟨c, _, rfl⟩ := List.mem_map.mp hx
    exact okD_CV n c
theorem srt_BG {l : List (List (List Int))} (hc : ∀ c ∈ l, c ≠ []) (hl : l.length ≤ 1000000) : bfP .sorted [.lst (l.map BG)] = some (.lst ((l.mergeSort leG).map BG)) := by
  have h : srtOk (l.map BG) = true := by
    unfold srtOk alAll
    rw [Bool.and_eq_true, Bool.and_eq_true, Bool.or_eq_true]
    refine ⟨⟨okDs_all fun x hx => ?_, ?_⟩, .inl ?_⟩
    · obtain ⟨c, _, rfl⟩ := List.mem_map.mp hx
      exact okD_BG 27 c
    · rw [List.all_eq_true]
      intro x hx
      rw [List.all_eq_true]
      intro y hy
      obtain ⟨c, _, rfl⟩ := List.mem_map.mp hx
      obtain ⟨d, _, rfl⟩ := List.mem_map.mp hy
      exact alI_BG c d
    · rw [List.all_eq_true]
      intro x hx
      obtain ⟨c, h, rfl⟩ := List.mem_map.mp hx
      have := hc c h
      cases c with
      | nil => exact absurd rfl this
      | cons a r => rfl
  show sortP (l.map BG) = _
  unfold sortP
  rw [if_pos ⟨h, by rw [List.length_map]; exact hl⟩]
  congr 2
  exact (List.map_mergeSort (f := BG) (r := leG) (s := leB) fun a _ b _ => rfl).symm
theorem bg_ne {my : List Int → Bool} {m : Nat} (h1 : 1 ≤ m) {bags : List (List Int)} (h : BgOk my m bags) : bags ≠ [] := by
  rintro rfl
  obtain ⟨lot, hl, _⟩ := h.all 0 ⟨by omega, by omega⟩
  cases hl
theorem ok_all (n : Nat) {b p : Int} {ws : List Int} {prs : List (List Int)} (k : LOk b p ws prs) (st : Sto) : callN ds (n + 3) 11 [LV b p ws prs] st = .ok (.lst ((srtA (may b p ws prs) ws.length).map BG)) st := by
  have w1 := k.w1
  have w7 := k.w7
  have e2 := ix_L2 b p ws prs
  have hl := len_CV ws
  have hr := r1_nat (n := ws.length) (by omega)
  apply wM_eq
  rw [wM_call (d := d11) rfl rfl]
  show wS (evSs (callN ds (n + 2)) (.cons (.asg (.name 1) (.lst (.cons (.tup .nil) .nil))) (.cons (.for (.name 2) (.r1 (.bc .len (.cons (.ix (.var 0) (.int 2)) .nil))) b11_l0 [2, 3]) (.cons (.ret (.bc .sorted (.cons (.var 1) .nil))) .nil))) [.val (LV b p ws prs), .no, .no, .no, .no, .no, .no] st) _
  rw [wS_asgN (by show 1 < 7; decide), wM_of (show evE (callN ds (n + 2)) (.lst (.cons (.tup .nil) .nil)) [.val (LV b p ws prs), .no, .no, .no, .no, .no, .no] st = .ok (.lst ((allA (may b p ws prs) 0).map BG)) st from rfl)]
  show wS (evSs (callN ds (n + 2)) _ [.val (LV b p ws prs), .val (.lst ((allA (may b p ws prs) 0).map BG)), .no, .no, .no, .no, .no] st) _
  have ei : ∀ s1, evI (callN ds (n + 2)) (.r1 (.bc .len (.cons (.ix (.var 0) (.int 2)) .nil))) [.val (LV b p ws prs), s1, .no, .no, .no, .no, .no] st = .ok ((List.range ws.length).map fun (i : Nat) => PV.int (i : Int)) st := fun s1 => by
    generalize LV b p ws prs = B at e2 ⊢
    generalize CV ws = W at e2 hl
    generalize ((List.range ws.length).map fun (i : Nat) => PV.int (i : Int)) = R at hr ⊢
    generalize ((ws.length : Nat) : Int) = z at hl hr
    simp [evI, evE, evEs, look, rdV, opt_some, bnd_ret, e2, hl, hr, M.ret]
  rw [wS_for (ei _)]
  refine wFor (fun i env st' => env = [.val (LV b p ws prs), .val (.lst ((allA (may b p ws prs) i).map BG)), .no, .no, .no, .no, .no] ∧ st' = st) ?_ ?_ _ _ ⟨rfl, rfl⟩
  · rintro i y env st' hy ⟨rfl, rfl⟩
    have hi : i < ws.length := by
      have := (List.getElem?_eq_some_iff.mp hy).1
      simpa using this
    obtain ⟨I, hI, rfl⟩ : ∃ I : Int, I = (i : Int) ∧ y = .int I := by
      rw [List.getElem?_map, List.getElem?_range hi] at hy
      exact ⟨_, rfl, (Option.some.inj hy).symm⟩
    have h3 := r3_ev (n + 1) (my := may b p ws prs) (i := i) (by omega) I (LV b p ws prs) st'
    have h4 := f4_ev n k (rows := rowsA (allA (may b p ws prs) i) I) (fun r hr lot hlm => by
      obtain ⟨bags, hb, kk, hk, rfl⟩ := rowsA_mem hr
      have ok := allA_ok _ i bags hb
      have : Asc (i + 1) lot := by
        rcases putIn_mem hk hlm with h' | ⟨s, rfl, rfl | h'⟩
        · exact asc_up (ok.my lot h').2
        · rw [hI]; exact asc_app ⟨List.Pairwise.nil, by simp⟩
        · rw [hI]; exact asc_app (ok.my s h').2
      intro x hx
      have := this.2 x hx
      omega) (.val (.lst ((allA (may b p ws prs) i).map BG))) (.val (.int I)) st'
    show wS (evSs (callN ds (n + 2)) (.cons (.asg (.name 3) r3E) (.cons (.asg (.name 1) f4E) .nil)) [.val (LV b p ws prs), .val (.lst ((allA (may b p ws prs) i).map BG)), .val (.int I), .no, .no, .no, .no] st') _
    rw [wS_asgN (by show 3 < 7; decide), wM_of h3]
    show wS (evSs (callN ds (n + 2)) _ [.val (LV b p ws prs), .val (.lst ((allA (may b p ws prs) i).map BG)), .val (.int I), .val (.lst ((rowsA (allA (may b p ws prs) i) I).map BG)), .no, .no, .no] st') _
    rw [wS_asgN (by show 1 < 7; decide), wM_of h4, wS_nil]
    refine ⟨?_, rfl⟩
    rw [hI]
    rfl
  · rintro env st' ⟨rfl, rfl⟩
    rw [List.length_map, List.length_range, nx_nx, wS_ret]
    have hfac : fac ws.length ≤ 5040 := by
      have : ∀ j : Fin 8, fac j.val ≤ 5040 := by decide
      exact this ⟨ws.length, by omega⟩
    have hs := srt_BG (l := allA (may b p ws prs) ws.length) (fun c hc => bg_ne w1 (allA_ok _ _ c hc)) (by have := allA_len (may b p ws prs) ws.length; omega)
    rw [show (allA (may b p ws prs) ws.length).mergeSort leG = srtA (may b p ws prs) ws.length from rfl] at hs
    generalize PV.lst ((allA (may b p ws prs) ws.length).map BG) = G1 at hs ⊢
    generalize PV.lst ((srtA (may b p ws prs) ws.length).map BG) = G2 at hs ⊢
    generalize LV b p ws prs = B
    simp [evE, evEs, look, rdV, opt_some, bnd_ret, hs, wM_ret, finQ]
def gLn : PV → Option PV := fun p => some (.int ((bgOf p).length : Nat))
theorem gLn_map : ∀ l : List (List (List Int)), (l.map BG).filterMap gLn = (l.map fun bags => (bags.length : Int)).map .int
  | [] => rfl
  | c :: cs => by
    rw [List.map_cons, List.filterMap_cons_some (b := .int (c.length : Nat)) (by unfold gLn; rw [bgOf_BG]), gLn_map cs]
    rfl
theorem few_srt (my : List Int → Bool) (m : Nat) : mn ((srtA my m).map fun bags => (bags.length : Int)) = fewV my m := by
  unfold fewV srtA
  exact mn_set fun x => ((List.mergeSort_perm (allA my m) leG).map _).mem_iff
theorem ok_few (n : Nat) {b p : Int} {ws : List Int} {prs : List (List Int)} (k : LOk b p ws prs) {f : Int} (hf : fewV (may b p ws prs) ws.length = some f) (st : Sto) : callN ds (n + 4) 12 [LV b p ws prs] st = .ok (.lst (((srtA (may b p ws prs) ws.length).filter fun bags => decide ((bags.length : Int) = f)).map BG)) st := by
  have h1 := ok_all n k st
  have hm := min_ints _ ((few_srt (may b p ws prs) ws.length).trans hf)
  generalize LV b p ws prs = B at h1 ⊢
  generalize srtA (may b p ws prs) ws.length = S at h1 hm ⊢
  have es : seqOf (.lst (S.map BG)) = some (S.map BG) := rfl
  generalize hL : PV.lst (S.map BG) = L at h1 es
  apply wM_eq
  rw [wM_call (d := d12) rfl rfl]
  show wS (evSs (callN ds (n + 3)) (.cons (.asg (.name 1) (.call 11 (.cons (.var 0) .nil))) (.cons (.asg (.name 2) (.bc .min (.cons (.comp (.bc .len (.cons (.var 3) .nil)) (.name 3) (.val (.var 1)) .nil [3]) .nil))) (.cons (.ret (.comp (.var 3) (.name 3) (.val (.var 1)) (.cons (.cmp .eq (.bc .len (.cons (.var 3) .nil)) (.var 2)) .nil) [3])) .nil))) [.val B, .no, .no, .no] st) _
  rw [wS_asgN (by show 1 < 4; decide), evE, wM_bnd, wM_of (show evEs (callN ds (n + 3)) (.cons (.var 0) .nil) [.val B, .no, .no, .no] st = .ok [B] st from rfl), wM_of h1]
  show wS (evSs (callN ds (n + 3)) _ [.val B, .val L, .no, .no] st) _
  have ei : ∀ s2, evI (callN ds (n + 3)) (.val (.var 1)) [.val B, .val L, s2, .no] st = .ok (S.map BG) st := fun s2 => by
    simp [evI, evE, look, rdV, opt_some, bnd_ret, es, M.ret]
  have hln := len_BG
  have hmin : evE (callN ds (n + 3)) (.bc .min (.cons (.comp (.bc .len (.cons (.var 3) .nil)) (.name 3) (.val (.var 1)) .nil [3]) .nil)) [.val B, .val L, .no, .no] st = .ok (.int f) st := by
    apply wM_eq
    rw [evE, wM_bnd, evEs_cons, wM_bnd, evE, wM_bnd, wM_of (ei .no), wM_bnd, wM_nox]
    rw [wM_of (compL_pure gLn fun x hx => ?_)]
    · rw [gLn_map, wM_ret, wM_bnd, evEs, wM_ret, wM_ret, hm, wM_some]
      exact ⟨rfl, rfl⟩
    · obtain ⟨r, _, rfl⟩ := List.mem_map.mp hx
      have q := hln r
      unfold gLn
      rw [bgOf_BG]
      generalize BG r = G at q ⊢
      generalize ((r.length : Nat) : Int) = z at q ⊢
      simp only [bindG_name]
      simp [put, wipeE]
      simp [evTs, evE, evEs, look, rdV, opt_some, bnd_ret, M.bnd, M.ret, q]
  rw [wS_asgN (by show 2 < 4; decide), wM_of hmin]
  show wS (evSs (callN ds (n + 3)) _ [.val B, .val L, .val (.int f), .no] st) _
  rw [wS_ret, evE, wM_bnd, wM_of (ei (.val (.int f))), wM_bnd, wM_nox]
  rw [wM_of (compL_pure (gB fun bags => decide ((bags.length : Int) = f)) fun x hx => ?_)]
  · rw [gB_map]
    exact ⟨rfl, rfl⟩
  · obtain ⟨r, _, rfl⟩ := List.mem_map.mp hx
    have q := hln r
    unfold gB
    rw [bgOf_BG]
    generalize BG r = G at q ⊢
    simp only [bindG_name]
    simp only [List.length_cons, List.length_nil, wipeE, put, if_pos (show 3 < 0 + 1 + 1 + 1 + 1 by decide)]
    by_cases hz : ((r.length : Nat) : Int) = f
    · simp [evTs, evT, evE, evEs, look, rdV, opt_some, bnd_ret, M.bnd, M.ret, q, cmp_eqI, truthP, hz]
    · simp [evTs, evT, evE, evEs, look, rdV, opt_some, bnd_ret, M.bnd, M.ret, q, cmp_eqI, truthP, hz]
theorem ok_fewest (n : Nat) {b p : Int} {ws : List Int} {prs : List (List Int)} (k : LOk b p ws prs) {f : Int} (hf : fewV (may b p ws prs) ws.length = some f) (st : Sto) : callN ds (n + 6) 16 [LV b p ws prs] st = .ok (.int f) st := by
  have h0 := ok_nload n k st
  have h1 := ok_few (n + 1) k hf st
  have hm := (mn_iff.mp ((few_srt (may b p ws prs) ws.length).trans hf)).1
  generalize LV b p ws prs = B at h0 h1 ⊢
  generalize srtA (may b p ws prs) ws.length = S at h1 hm
  obtain ⟨x, r, hx, hxl⟩ : ∃ x r, (S.filter fun bags => decide ((bags.length : Int) = f)) = x :: r ∧ (x.length : Int) = f := by
    obtain ⟨y, hy, e⟩ := List.mem_map.mp hm
    have : y ∈ S.filter fun bags => decide ((bags.length : Int) = f) := List.mem_filter.mpr ⟨hy, by simpa using e⟩
    cases hS : S.filter fun bags => decide ((bags.length : Int) = f) with
    | nil => rw [hS] at this; cases this
    | cons x r =>
      have hxm : x ∈ S.filter fun bags => decide ((bags.length : Int) = f) := by rw [hS]; exact List.mem_cons_self
      exact ⟨x, r, rfl, by simpa using (List.mem_filter.mp hxm).2⟩
  rw [hx] at h1
  have hix : M.ix (.lst ((x :: r).map BG)) (.int 0) = M.ret (BG x) := rfl
  have hl := len_BG x
  rw [show ((x.length : Nat) : Int) = f from hxl] at hl
  apply wM_eq
  rw [wM_call (d := d16) rfl rfl]
  have q0 := fun Q : PV → Sto → Prop => wM_of (Q := Q) h0
  have q1 := fun Q : PV → Sto → Prop => wM_of (Q := Q) h1
  generalize PV.lst ((x :: r).map BG) = L at q1 hix
  generalize BG x = G at hix hl
  simp [d16, enter, wS_cons, wS_nil, aft, finQ, wS_lift, wS_ok, wM_ret, wM_bnd, wM_some, opt_some, bnd_ret, evS, evE, evEs, look, rdV, q0, q1, hix, hl]
end Lw

/-! FA: random loads. -/
namespace Lw
open PySem PySem.Spec Pv
structure PrI (i m : Nat) (prs : List (List Int)) : Prop where
  l12 : prs.length ≤ 12
  q : ∀ q ∈ prs, ∃ a b, q = [a, b] ∧ 0 ≤ a ∧ a < b ∧ b < m ∧ a < i
  up : prs.Pairwise fun a b => ltL a b = true
theorem pri_0 (m : Nat) : PrI 0 m [] := ⟨by simp, fun q hq => by simp at hq, List.Pairwise.nil⟩
theorem pri_app {i m : Nat} {prs : List (List Int)} (k : PrI i m prs) (I : Int) (hI : I = i) (m7 : m ≤ 7) (hi : i < m) {l : List Int} (h1 : l.length ≤ m - (i + 1)) (h2 : l.Pairwise (· < ·)) (h3 : ∀ o ∈ l, I < o ∧ o < m) (h4 : l ≠ [] → prs.length < 7) : PrI (i + 1) m (prs ++ l.map fun o => [I, o]) := by
  refine ⟨?_, fun q hq => ?_, ?_⟩
  · rw [List.length_append, List.length_map]
    have := k.l12
    cases l with
    | nil => simp; exact this
    | cons a r => have := h4 (by simp); omega
  · rcases List.mem_append.mp hq with h | h
    · obtain ⟨a, b, rfl, a0, ab, bm, ai⟩ := k.q q h
      exact ⟨a, b, rfl, a0, ab, bm, by omega⟩
    · obtain ⟨o, ho, rfl⟩ := List.mem_map.mp h
      obtain ⟨o1, o2⟩ := h3 o ho
      exact ⟨I, o, rfl, by omega, o1, o2, by omega⟩
  · refine List.pairwise_append.mpr ⟨k.up, ?_, fun a ha b hb => ?_⟩
    · rw [List.pairwise_map]
      exact h2.imp fun {a b} h => by
        have : a ≠ b := by omega
        simp [ltL, this, h]
    · obtain ⟨a0, a1, rfl, _, _, _, ai⟩ := k.q a ha
      obtain ⟨o, ho, rfl⟩ := List.mem_map.mp hb
      have : a0 ≠ I := by omega
      have h : a0 < I := by omega
      simp [ltL, this, h]
theorem r2_ex (I N : Int) (i m : Nat) (hI : I = i) (hN : N = m) (him : i < m) (m7 : m ≤ 7) : ∃ its, range2 (.int (I + 1)) (.int N) = some its ∧ its.length = m - (i + 1) ∧ ∀ (j : Nat) (x : PV), its[j]? = some x → ∃ o : Int, x = .int o ∧ o = I + 1 + j ∧ j < m - (i + 1) := by
  refine ⟨_, by rw [hI, hN, show (i : Int) + 1 = ((i + 1 : Nat) : Int) by omega]; exact r2_nat (by omega) (by omega), by simp, fun j x hx => ?_⟩
  rw [List.getElem?_map] at hx
  by_cases hj : j < m - (i + 1)
  · rw [List.getElem?_range hj] at hx
    exact ⟨_, (Option.some.inj hx).symm, by omega, hj⟩
  · rw [List.getElem?_eq_none (by simp; omega)] at hx
    cases hx
def prC : E := .comp (.tup (.cons (.var 6) (.cons (.var 8) .nil))) (.name 8) (.r2 (.bin .add (.var 6) (.int 1)) (.var 2)) (.cons (.bo true (.cons (.cmp .eq (.call 21 (.cons (.var 0) (.cons (.int 6) .nil))) (.int 0)) (.cons (.cmp .lt (.bc .len (.cons (.var 5) .nil)) (.int 7)) .nil))) .nil) [8]
theorem prC_ev (n : Nat) {i m : Nat} {prs : List (List Int)} (I N : Int) (hI : I = i) (hN : N = m) (him : i < m) (m7 : m ≤ 7) (s3 s4 : Slot) (st : Sto) (c : Cup st) : wM (evE (callN ds (n + 1)) prC [.val (.cel 0), .no, .val (.int N), s3, s4, .val (QV prs), .val (.int I), .no, .no]) (fun v st' => ∃ l : List Int, v = .lst ((l.map fun o => [I, o]).map CV) ∧ l.length ≤ m - (i + 1) ∧ l.Pairwise (· < ·) ∧ (∀ o ∈ l, I < o ∧ o < m) ∧ (l ≠ [] → prs.length < 7) ∧ Cup st') st := by
  obtain ⟨its, hits, hlen, hget⟩ := r2_ex I N i m hI hN him m7
  have hz := bin_addI I 1
  have hq : bfP .len [QV prs] = some (.int (prs.length : Nat)) := by
    show some (PV.int ((prs.map CV).length : Nat)) = _
    rw [List.length_map]
  obtain ⟨z, ez⟩ : ∃ z : Int, z = ((prs.length : Nat) : Int) := ⟨_, rfl⟩
  rw [← ez] at hq
  generalize QV prs = Q at hq ⊢
  generalize I + 1 = I1 at hits hz
  have ei : evI (callN ds (n + 1)) (.r2 (.bin .add (.var 6) (.int 1)) (.var 2)) [.val (.cel 0), .no, .val (.int N), s3, s4, .val Q, .val (.int I), .no, .no] st = .ok its st := by
    simp [evI, evE, look, rdV, opt_some, bnd_ret, hz, hits, M.ret]
  unfold prC
  rw [evE, wM_bnd, wM_of ei, wM_bnd, wM_nox]
  refine wComp (fun j ps st' => ∃ l : List Int, ps = l.map (fun o => CV [I, o]) ∧ l.length ≤ j ∧ l.Pairwise (· < ·) ∧ (∀ o ∈ l, I < o ∧ o < I + 1 + j ∧ o < m) ∧ (l ≠ [] → prs.length < 7) ∧ Cup st') ?_ ?_ _ ⟨[], rfl, by simp, List.Pairwise.nil, by simp, by simp, c⟩
  · rintro j x ps st1 hx ⟨l, rfl, h1, h2, h3, h4, c1⟩
    obtain ⟨o, rfl, ho, hj⟩ := hget j x hx
    have old : ∀ o ∈ l, I < o ∧ o < I + 1 + ((j + 1 : Nat) : Int) ∧ o < m := fun o ho => by have := h3 o ho; omega
    simp only [bindG_name]
    simp [put, wipeE]
    simp [evTs, evT, evBoT, evE, evEs, look, rdV, opt_some, bnd_ret, bnd_assoc, wM_bnd, wM_ret]
    refine wM_mono (ok_roll n 6 (by omega) (by omega) st1 c1) ?_
    rintro v st2 ⟨y, rfl, y0, y1, c2⟩
    by_cases hy : y = 0
    · by_cases hp : z < 7
      · simp [cmp_eqI, cmp_ltI, hy, hq, hp, truthP, opt_some, bnd_ret, wM_bnd, wM_ret, wM_some]
        refine ⟨l ++ [o], by simp [CV], by simp; omega, List.pairwise_append.mpr ⟨h2, List.pairwise_singleton _ _, fun a ha b hb => ?_⟩, fun u hu => ?_, fun _ => by omega, c2⟩
        · rw [List.mem_singleton.mp hb]; have := h3 a ha; omega
        · rcases List.mem_append.mp hu with hu | hu
          · have := old u hu; simpa using this
          · rw [List.mem_singleton.mp hu]; refine ⟨by omega, by omega, by omega⟩
      · simp [cmp_eqI, cmp_ltI, hy, hq, hp, truthP, opt_some, bnd_ret, wM_bnd, wM_ret, wM_some]
        exact ⟨l, rfl, by omega, h2, fun u hu => by have := old u hu; simpa using this, fun hl => h4 hl, c2⟩
    · simp [cmp_eqI, hy, truthP, opt_some, bnd_ret, wM_bnd, wM_ret, wM_some]
      exact ⟨l, rfl, by omega, h2, fun u hu => by have := old u hu; simpa using this, fun hl => h4 hl, c2⟩
  · rintro ps st1 ⟨l, rfl, h1, h2, h3, h4, c1⟩
    rw [hlen] at h1
    refine ⟨l, by rw [List.map_map]; rfl, h1, h2, fun o ho => ⟨(h3 o ho).1, (h3 o ho).2.2⟩, h4, c1⟩
def prE : E := .bin .add (.var 5) (.bc .tuple (.cons prC .nil))
theorem pr_ev (n : Nat) {i m : Nat} {prs : List (List Int)} (k : PrI i m prs) (I N : Int) (hI : I = i) (hN : N = m) (him : i < m) (m7 : m ≤ 7) (s3 s4 : Slot) (st : Sto) (c : Cup st) : wM (evE (callN ds (n + 1)) prE [.val (.cel 0), .no, .val (.int N), s3, s4, .val (QV prs), .val (.int I), .no, .no]) (fun v st' => ∃ prs', v = QV prs' ∧ PrI (i + 1) m prs' ∧ Cup st') st := by
  have h := prC_ev n (prs := prs) I N hI hN him m7 s3 s4 st c
  unfold prE
  generalize prC = C at h ⊢
  rw [evE, wM_bnd, evE, show look [.val (.cel 0), .no, .val (.int N), s3, s4, .val (QV prs), .val (.int I), .no, .no] 5 = .val (QV prs) from rfl, rdV_val, wM_ret, wM_bnd, evE, wM_bnd, evEs_cons, wM_bnd]
  refine wM_mono h ?_
  rintro v st' ⟨l, rfl, h1, h2, h3, h4, c'⟩
  rw [evEs, bnd_ret, wM_ret, tupL, wM_some]
  have kk := pri_app k I hI m7 him h1 h2 h3 h4
  have l12 := kk.l12
  rw [List.length_append, List.length_map] at l12
  have hb : binP .add (QV prs) (.tup ((l.map fun o => [I, o]).map CV)) = some (QV (prs ++ l.map fun o => [I, o])) := by
    unfold QV
    show (if _ then _ else _) = _
    rw [if_pos (by simp; omega), List.map_append]
  rw [hb, wM_some]
  exact ⟨_, rfl, kk, c'⟩
def wtE : E := .bc .tuple (.cons (.comp (.bin .add (.int 1) (.call 21 (.cons (.var 0) (.cons (.var 3) .nil)))) (.name 7) (.r1 (.var 2)) .nil [7]) .nil)
theorem wt_ev (n : Nat) {m : Nat} (N S : Int) (hN : N = m) (m7 : m ≤ 7) (S1 : 1 ≤ S) (S2 : S ≤ 60) (st : Sto) (c : Cup st) : wM (evE (callN ds (n + 1)) wtE [.val (.cel 0), .val (.int 5), .val (.int N), .val (.int S), .no, .no, .no, .no, .no]) (fun v st' => ∃ ws : List Int, v = CV ws ∧ ws.length = m ∧ (∀ x ∈ ws, 1 ≤ x ∧ x ≤ S) ∧ Cup st') st := by
  obtain ⟨its, hits, hlen⟩ := r1_ex (R := N) (by omega) (by omega)
  have ei : evI (callN ds (n + 1)) (.r1 (.var 2)) [.val (.cel 0), .val (.int 5), .val (.int N), .val (.int S), .no, .no, .no, .no, .no] st = .ok its st := by
    simp [evI, evE, look, rdV, opt_some, bnd_ret, hits, M.ret]
  unfold wtE
  rw [evE, wM_bnd, evEs_cons, wM_bnd, evE, wM_bnd, wM_of ei, wM_bnd, wM_nox]
  refine wComp (fun i ps st' => ∃ r : List Int, ps = r.map .int ∧ r.length = i ∧ (∀ x ∈ r, 1 ≤ x ∧ x ≤ S) ∧ Cup st') ?_ ?_ _ ⟨[], rfl, rfl, by simp, c⟩
  · rintro i x ps st1 hx ⟨r, rfl, hl, hd, c1⟩
    simp only [bindG_name]
    simp [put, wipeE]
    simp [evTs, evE, evEs, look, rdV, opt_some, bnd_ret, bnd_assoc, wM_bnd, wM_ret]
    refine wM_mono (ok_roll n S S1 (by omega) st1 c1) ?_
    rintro v st2 ⟨y, rfl, y0, y1, c2⟩
    rw [bin_addI, wM_some]
    refine ⟨r ++ [1 + y], by simp, by simp [hl], fun z hz => ?_, c2⟩
    rcases List.mem_append.mp hz with hz | hz
    · exact hd z hz
    · rw [List.mem_singleton.mp hz]; omega
  · rintro ps st1 ⟨r, rfl, hl, hd, c1⟩
    rw [wM_ret, evEs, bnd_ret, wM_ret, tupL, wM_some]
    exact ⟨r, rfl, by rw [hl, hlen]; omega, hd, c1⟩
def ldR : Ss := .cons (.asg (.name 4) wtE) (.cons (.asg (.name 5) (.tup .nil)) (.cons (.kill [1]) (.cons (.for (.name 6) (.r1 (.var 2)) b26_l0 [6]) (.cons (.ret (.tup (.cons (.bin .add (.bc .max (.cons (.var 4) .nil)) (.call 21 (.cons (.var 0) (.cons (.bin .add (.var 3) (.int 3)) .nil)))) (.cons (.bin .add (.int 1) (.call 21 (.cons (.var 0) (.cons (.int 5) .nil)))) (.cons (.var 4) (.cons (.sl (.var 5) .no (.yes (.int 12))) .nil)))))) .nil))))
def eLd (N S : Int) (ws : List Int) (prs : List (List Int)) : En := [.val (.cel 0), .no, .val (.int N), .val (.int S), .val (CV ws), .val (QV prs), .no, .no, .no]
theorem cut12 (xs : List PV) (h : xs.length ≤ 12) : cutL xs none (some (12 : Int)) = xs := by
  show (xs.drop 0).take (min 12 xs.length - 0) = xs
  rw [List.drop_zero, Nat.sub_zero, Nat.min_eq_right h, List.take_length]
theorem ok_load (n : Nat) (st : Sto) (c : Cup st) : wM (callN ds (n + 3) 26 [.cel 0, .int 5]) (fun v st' => ∃ b p ws prs, v = LV b p ws prs ∧ LOk b p ws prs ∧ ws.length ≤ 5 ∧ Cup st') st := by
  rw [wM_call (d := d26) rfl rfl]
  show wS (evSs (callN ds (n + 2)) (.cons (.asg (.tup (.cons (.name 2) (.cons (.name 3) .nil))) (.tup (.cons (.bin .add (.int 1) (.call 21 (.cons (.var 0) (.cons (.var 1) .nil)))) (.cons (.call 22 (.cons (.var 0) (.cons (.lst (.cons (.int 3) (.cons (.int 10) (.cons (.int 60) .nil)))) .nil))) .nil)))) ldR) [.val (.cel 0), .val (.int 5), .no, .no, .no, .no, .no, .no, .no] st) _
  rw [wS_asgT]
  simp only [evEs, evE, wM_bnd, look, rdV, opt_some, wM_ret]
  refine wM_mono (ok_roll (n + 1) 5 (by omega) (by omega) st c) ?_
  rintro v st1 ⟨x, rfl, x0, x1, c1⟩
  rw [bin_addI, wM_some]
  refine wM_mono (ok_some n _ (by simp) (by simp) st1 c1) ?_
  rintro v st2 ⟨hv, c2⟩
  have hS : ∃ S : Int, v = .int S ∧ 1 ≤ S ∧ S ≤ 60 := by
    simp at hv
    rcases hv with rfl | rfl | rfl
    · exact ⟨3, rfl, by omega, by omega⟩
    · exact ⟨10, rfl, by omega, by omega⟩
    · exact ⟨60, rfl, by omega, by omega⟩
  obtain ⟨S, rfl, S1, S2⟩ := hS
  obtain ⟨m, hm⟩ : ∃ m : Nat, 1 + x = m := ⟨(1 + x).toNat, by omega⟩
  have m1 : 1 ≤ m := by omega
  have m7 : m ≤ 7 := by omega
  have m5 : m ≤ 5 := by omega
  generalize 1 + x = N at hm ⊢
  show wS (evSs (callN ds (n + 2)) ldR [.val (.cel 0), .val (.int 5), .val (.int N), .val (.int S), .no, .no, .no, .no, .no] st2) _
  unfold ldR
  rw [wS_asgN (by show 4 < 9; decide)]
  refine wM_mono (wt_ev (n + 1) N S hm m7 S1 S2 st2 c2) ?_
  rintro v st3 ⟨ws, rfl, hwl, hw, c3⟩
  rw [wS_asgN (by show 5 < 9; decide), evE, evEs, bnd_ret, wM_ret, wS_kill]
  show wS (evSs (callN ds (n + 2)) _ (eLd N S ws []) st3) _
  obtain ⟨its, hits, hlen⟩ := r1_ex (R := N) (by omega) (by omega)
  have hge : ∀ (j : Nat) (x : PV), its[j]? = some x → ∃ J : Int, x = .int J ∧ J = j ∧ j < m := fun j x hx => by
    have e := hits
    rw [hm, r1_nat (by omega)] at e
    rw [← Option.some.inj e, List.getElem?_map] at hx
    by_cases hj : j < m
    · rw [List.getElem?_range hj] at hx
      exact ⟨_, (Option.some.inj hx).symm, rfl, hj⟩
    · rw [List.getElem?_eq_none (by simp; omega)] at hx
      cases hx
  have ei : evI (callN ds (n + 2)) (.r1 (.var 2)) (eLd N S ws []) st3 = .ok its st3 := by
    unfold eLd
    simp [evI, evE, look, rdV, opt_some, bnd_ret, hits, M.ret]
  rw [wS_for ei]
  refine wFor (fun i env st' => ∃ prs, env = eLd N S ws prs ∧ PrI i m prs ∧ Cup st') ?_ ?_ _ _ ⟨[], rfl, pri_0 m, c3⟩
  · rintro i y env st4 hy ⟨prs, rfl, kp, c4⟩
    obtain ⟨I, rfl, hI, him⟩ := hge i y hy
    show wS (evSs (callN ds (n + 2)) (.cons (.asg (.name 5) prE) .nil) [.val (.cel 0), .no, .val (.int N), .val (.int S), .val (CV ws), .val (QV prs), .val (.int I), .no, .no] st4) _
    rw [wS_asgN (by show 5 < 9; decide)]
    refine wM_mono (pr_ev (n + 1) kp I N hI hm him m7 _ _ st4 c4) ?_
    rintro v st5 ⟨prs', rfl, kp', c5⟩
    rw [wS_nil]
    exact ⟨prs', rfl, kp', c5⟩
  · rintro env st4 ⟨prs, rfl, kp, c4⟩
    rw [hlen, hm, Int.toNat_natCast] at kp
    rw [nx_nx, wS_ret]
    obtain ⟨mx, hmx, hmm, hmle⟩ := max_CV (ws := ws) (by omega)
    have hmb := hw mx hmm
    have hs : slP (QV prs) none (some 12) = some (QV prs) := by
      show some (PV.tup (cutL (prs.map CV) none (some (12 : Int)))) = _
      rw [cut12 _ (by rw [List.length_map]; exact kp.l12)]
      rfl
    unfold eLd
    generalize hQ : QV prs = Q at hs ⊢
    generalize hW : CV ws = W at hmx ⊢
    simp [evE, evEs, look, rdV, opt_some, bnd_ret, bnd_assoc, wM_bnd, wM_ret, hmx, bin_addI]
    refine wM_mono (ok_roll (n + 1) (S + 3) (by omega) (by omega) st4 c4) ?_
    rintro v st5 ⟨y, rfl, y0, y1, c5⟩
    simp [bin_addI, opt_some, bnd_ret, bnd_assoc, wM_bnd, wM_ret]
    refine wM_mono (ok_roll (n + 1) 5 (by omega) (by omega) st5 c5) ?_
    rintro v st6 ⟨p, rfl, p0, p1, c6⟩
    simp [bin_addI, opt_some, bnd_ret, bnd_assoc, wM_bnd, wM_ret, evOe, evE, hs]
    refine ⟨mx + y, 1 + p, ws, prs, by rw [← hQ, ← hW]; rfl, ⟨by omega, by omega, by omega, by omega, by omega, by omega, fun x hx => ?_, kp.l12, fun q hq => ?_, kp.up⟩, by omega, c6⟩
    · have := hw x hx
      have := hmle x hx
      omega
    · obtain ⟨a, b, rfl, a0, ab, bm, _⟩ := kp.q q hq
      exact ⟨a, b, rfl, a0, ab, by omega⟩
end Lw

/-! FB: belts, plainly. -/
namespace Lw
open PySem PySem.Spec Pv
def srt (s : List Int) : List Int := s.mergeSort leI
theorem srt_perm (s : List Int) : (srt s).Perm s := List.mergeSort_perm s leI
theorem srt_pw (s : List Int) : (srt s).Pairwise (· ≤ ·) :=
  (List.pairwise_mergeSort (le := leI) (fun a b c h1 h2 => by unfold leI at *; simp at *; omega) (fun a b => by unfold leI; simp; omega) s).imp fun h => by unfold leI at h; simpa using h
theorem srt_eq {s t : List Int} (h : s.Perm t) : srt s = srt t :=
  ((srt_perm s).trans (h.trans (srt_perm t).symm)).eq_of_pairwise (fun a b _ _ h1 h2 => by omega) (srt_pw s) (srt_pw t)
theorem nd_perm {m : Nat} {s t : List Int} (h : s.Perm t) (k : Nd m s) : Nd m t := ⟨h.nodup_iff.mp k.1, fun x hx => k.2 x (h.mem_iff.mpr hx)⟩
theorem nd_sub {m : Nat} {s t : List Int} (h : s.Sublist t) (k : Nd m t) : Nd m s := ⟨k.1.sublist h, fun x hx => k.2 x (h.subset hx)⟩
theorem srt_asc {m : Nat} {s : List Int} (h : Nd m s) : Asc m (srt s) := by
  have k := nd_perm (srt_perm s).symm h
  refine ⟨?_, k.2⟩
  exact ((srt_pw s).and k.1).imp fun h => by have := h.1; have := h.2; omega
theorem srt_id {m : Nat} {s : List Int} (h : Asc m s) : srt s = s :=
  (srt_perm s).eq_of_pairwise (fun a b _ _ h1 h2 => by omega) (srt_pw s) (h.1.imp fun h => by omega)
theorem srt_ne {s : List Int} (h : s ≠ []) : srt s ≠ [] := fun e => h (by have := (srt_perm s).length_eq; rw [e] at this; exact List.eq_nil_of_length_eq_zero this.symm)
/-! belts -/
def stB (my : List Int → Bool) (st : List (List Int) × List Int) (x : Int) : List (List Int) × List Int :=
  if (!st.2.isEmpty && my (st.2 ++ [x])) = true then (st.1, st.2 ++ [x]) else (if st.2.isEmpty = true then st.1 else st.1 ++ [st.2], [x])
def lotsB (st : List (List Int) × List Int) : List (List Int) := if st.2.isEmpty = true then st.1 else st.1 ++ [st.2]
def rawB (my : List Int → Bool) (o : List Int) : List (List Int) := lotsB (o.foldl (stB my) ([], []))
def cntB (my : List Int → Bool) (o : List Int) : Int := ((rawB my o).length : Nat)
theorem lots_st (my : List Int → Bool) (st : List (List Int) × List Int) (x : Int) : lotsB (stB my st x) = if (!st.2.isEmpty && my (st.2 ++ [x])) = true then st.1 ++ [st.2 ++ [x]] else lotsB st ++ [[x]] := by
  unfold stB
  split
  · unfold lotsB
    rw [if_neg (by cases st.2 <;> simp)]
  · rfl
theorem lots_flat (my : List Int → Bool) (st : List (List Int) × List Int) (x : Int) : (lotsB (stB my st x)).flatten = (lotsB st).flatten ++ [x] := by
  rw [lots_st]
  split
  · rename_i h
    have hn : st.2.isEmpty = false := by
      rw [Bool.and_eq_true, Bool.not_eq_true'] at h
      exact h.1
    unfold lotsB
    rw [hn, if_neg (by simp)]
    simp
  · simp
theorem fold_flat (my : List Int → Bool) : ∀ (o : List Int) (st : List (List Int) × List Int), (lotsB (o.foldl (stB my) st)).flatten = (lotsB st).flatten ++ o
  | [], st => by simp
  | x :: o, st => by
    rw [List.foldl_cons, fold_flat my o, lots_flat, List.append_assoc]
    rfl
theorem raw_flat (my : List Int → Bool) (o : List Int) : (rawB my o).flatten = o := by
  unfold rawB
  rw [fold_flat]
  rfl
theorem fold_good {my : List Int → Bool} : ∀ (o : List Int) (st : List (List Int) × List Int), (∀ x ∈ o, my [x] = true) → (∀ lot ∈ lotsB st, lot ≠ [] ∧ my lot = true) → ∀ lot ∈ lotsB (o.foldl (stB my) st), lot ≠ [] ∧ my lot = true
  | [], _, _, h => h
  | x :: o, st, ho, h => by
    rw [List.foldl_cons]
    refine fold_good o _ (fun y hy => ho y (List.mem_cons_of_mem _ hy)) fun lot hl => ?_
    rw [lots_st] at hl
    split at hl
    · rename_i hc
      rw [Bool.and_eq_true, Bool.not_eq_true'] at hc
      rcases List.mem_append.mp hl with h' | h'
      · refine h lot ?_
        unfold lotsB
        rw [hc.1, if_neg (by simp)]
        exact List.mem_append_left _ h'
      · rw [List.mem_singleton.mp h']
        exact ⟨by simp, hc.2⟩
    · rcases List.mem_append.mp hl with h' | h'
      · exact h lot h'
      · rw [List.mem_singleton.mp h']
        exact ⟨by simp, ho x List.mem_cons_self⟩
theorem raw_good {my : List Int → Bool} {o : List Int} (ho : ∀ x ∈ o, my [x] = true) : ∀ lot ∈ rawB my o, lot ≠ [] ∧ my lot = true :=
  fold_good o _ ho (by intro lot h; cases h)
theorem sub_flat : ∀ {L : List (List Int)} {lot : List Int}, lot ∈ L → lot.Sublist L.flatten
  | a :: L, lot, h => by
    rw [List.flatten_cons]
    rcases List.mem_cons.mp h with rfl | h
    · exact List.sublist_append_left _ _
    · exact (sub_flat h).trans (List.sublist_append_right _ _)
theorem len_flat : ∀ {L : List (List Int)}, (∀ lot ∈ L, lot ≠ []) → L.length ≤ L.flatten.length
  | [], _ => Nat.le_refl _
  | a :: L, h => by
    have ih := len_flat fun l hl => h l (List.mem_cons_of_mem _ hl)
    have := List.length_pos_iff.mpr (h a List.mem_cons_self)
    rw [List.flatten_cons, List.length_append, List.length_cons]
    omega
theorem cnt_le {my : List Int → Bool} {o : List Int} (ho : ∀ x ∈ o, my [x] = true) : cntB my o ≤ (o.length : Nat) := by
  have := len_flat fun lot hl => (raw_good ho lot hl).1
  rw [raw_flat] at this
  unfold cntB
  omega
/-! all bags -/
theorem rI_succ (n : Nat) : rI (n + 1) = rI n ++ [(n : Int)] := by
  unfold rI
  rw [List.range_succ, List.map_append]
  rfl
theorem putIn_flat {bags : List (List Int)} {a : Int} {k : Nat} (hk : k ≤ bags.length) : (putIn bags a k).flatten.Perm (bags.flatten ++ [a]) := by
  unfold putIn
  split
  · simp
  · have hlt : k < bags.length := by omega
    have e : bags = bags.take k ++ [bags.getD k []] ++ bags.drop (k + 1) := by
      rw [List.getD_eq_getElem?_getD, List.getElem?_eq_getElem hlt, Option.getD_some, ← List.take_succ_eq_append_getElem hlt, List.take_append_drop]
    generalize bags.getD k [] = g at e ⊢
    generalize bags.take k = T at e ⊢
    generalize bags.drop (k + 1) = D at e ⊢
    rw [e]
    simp only [List.flatten_append, List.flatten_cons, List.flatten_nil, List.append_nil, List.append_assoc]
    exact ((List.perm_append_comm).append_left _).append_left _
theorem allA_flat (my : List Int → Bool) : ∀ (n : Nat) (bags : List (List Int)), bags ∈ allA my n → bags.flatten.Perm (rI n)
  | 0, bags, h => by rw [List.mem_singleton.mp h]; exact List.Perm.refl _
  | n + 1, r, h => by
    obtain ⟨h1, _⟩ := List.mem_filter.mp h
    obtain ⟨bags, hb, k, hk, rfl⟩ := rowsA_mem h1
    rw [rI_succ]
    exact (putIn_flat hk).trans ((allA_flat my n bags hb).append_right _)
theorem putIn_end (bags : List (List Int)) (a : Int) : putIn bags a bags.length = bags ++ [[a]] := by
  unfold putIn
  rw [if_pos rfl]
theorem putIn_mid (A B : List (List Int)) (u : List Int) (a : Int) : putIn (A ++ u :: B) a A.length = A ++ (u ++ [a]) :: B := by
  unfold putIn
  rw [if_neg (by simp)]
  have e1 : (A ++ u :: B).take A.length = A := by simp
  have e2 : (A ++ u :: B).getD A.length [] = u := by simp
  have e3 : (A ++ u :: B).drop (A.length + 1) = B := by simp
  rw [e1, e2, e3]
  simp
theorem asc_top {n : Nat} {s : List Int} (h : Asc (n + 1) s) (hn : (n : Int) ∈ s) : ∃ u, Asc n u ∧ s = u ++ [(n : Int)] := by
  have := (subs_mem (n + 1) s).mpr h
  unfold subs at this
  rw [List.mem_append, List.mem_map] at this
  rcases this with h1 | ⟨u, hu, e⟩
  · have := ((subs_mem n s).mp h1).2 _ hn
    omega
  · exact ⟨u, (subs_mem n u).mp hu, e.symm⟩
theorem asc_dn {n : Nat} {s : List Int} (h : Asc (n + 1) s) (hn : (n : Int) ∉ s) : Asc n s := ⟨h.1, fun x hx => by
  have := h.2 x hx
  have : x ≠ n := fun e => hn (e ▸ hx)
  omega⟩
theorem parts {my : List Int → Bool} (hs : ∀ s t : List Int, s.Sublist t → my t = true → my s = true) : ∀ (n : Nat) (L : List (List Int)), (∀ lot ∈ L, Asc n lot ∧ lot ≠ [] ∧ my lot = true) → L.flatten.Perm (rI n) → ∃ bags ∈ allA my n, bags.Perm L
  | 0, L, h, hp => by
    have : L = [] := by
      cases L with
      | nil => rfl
      | cons a L =>
        have h1 := (h a List.mem_cons_self).2.1
        have h2 := hp.length_eq
        rw [List.flatten_cons, List.length_append] at h2
        have := List.length_pos_iff.mpr h1
        rw [show (rI 0).length = 0 from rfl] at h2
        omega
    subst this
    exact ⟨[], List.mem_singleton.mpr rfl, List.Perm.refl _⟩
  | n + 1, L, h, hp => by
    have hmem : (n : Int) ∈ L.flatten := hp.mem_iff.mpr (by rw [rI_succ]; simp)
    obtain ⟨l, hl, hnl⟩ := List.mem_flatten.mp hmem
    obtain ⟨L1, L2, rfl⟩ := List.append_of_mem hl
    obtain ⟨u, hu, rfl⟩ := asc_top (h l (by simp)).1 hnl
    have hnd : (L1 ++ (u ++ [(n : Int)]) :: L2).flatten.Nodup := hp.nodup_iff.mpr (asc_nodup (rI_asc (n + 1)))
    have pl : (L1 ++ (u ++ [(n : Int)]) :: L2).Perm ((u ++ [(n : Int)]) :: (L1 ++ L2)) := List.perm_middle
    have pf : (L1 ++ (u ++ [(n : Int)]) :: L2).flatten.Perm ((u ++ (L1 ++ L2).flatten) ++ [(n : Int)]) := by
      refine pl.flatten.trans ?_
      rw [List.flatten_cons, List.append_assoc, List.append_assoc]
      exact List.perm_append_comm.append_left _
    have pr : (u ++ (L1 ++ L2).flatten).Perm (rI n) := by
      have := pf.symm.trans hp
      rw [rI_succ] at this
      exact (List.perm_append_right_iff _).mp this
    have hnot : (n : Int) ∉ u ++ (L1 ++ L2).flatten := fun hm => by
      have := (rI_asc n).2 _ (pr.mem_iff.mp hm)
      omega
    have hR : ∀ lot ∈ L1 ++ L2, Asc n lot ∧ lot ≠ [] ∧ my lot = true := fun lot hm => by
      have h1 : lot ∈ L1 ++ (u ++ [(n : Int)]) :: L2 := by
        rcases List.mem_append.mp hm with h' | h'
        · exact List.mem_append_left _ h'
        · exact List.mem_append_right _ (List.mem_cons_of_mem _ h')
      obtain ⟨a1, a2, a3⟩ := h lot h1
      exact ⟨asc_dn a1 fun hx => hnot (List.mem_append_right _ (List.mem_flatten.mpr ⟨lot, hm, hx⟩)), a2, a3⟩
    have hbig := (h (u ++ [(n : Int)]) (by simp)).2.2
    have fin : ∀ bags' ∈ allA my n, ∀ k, k ≤ bags'.length → (putIn bags' n k).Perm ((u ++ [(n : Int)]) :: (L1 ++ L2)) → ∃ bags ∈ allA my (n + 1), bags.Perm (L1 ++ (u ++ [(n : Int)]) :: L2) := fun bags' hb k hk hpm => by
      refine ⟨putIn bags' n k, List.mem_filter.mpr ⟨List.mem_flatMap.mpr ⟨bags', hb, List.mem_map.mpr ⟨k, List.mem_range.mpr (by omega), rfl⟩⟩, ?_⟩, hpm.trans pl.symm⟩
      rw [List.all_eq_true]
      intro lot hlot
      rcases List.mem_cons.mp (hpm.mem_iff.mp hlot) with rfl | h'
      · exact hbig
      · exact (hR lot h').2.2
    by_cases hu0 : u = []
    · subst hu0
      obtain ⟨bags', hb, hpm⟩ := parts hs n (L1 ++ L2) hR (by simpa using pr)
      refine fin bags' hb bags'.length (Nat.le_refl _) ?_
      rw [putIn_end]
      exact (List.perm_append_comm.trans (hpm.cons _))
    · obtain ⟨bags', hb, hpm⟩ := parts hs n (u :: (L1 ++ L2)) (fun lot hm => by
        rcases List.mem_cons.mp hm with rfl | hm
        · exact ⟨hu, hu0, hs _ _ (List.sublist_append_left _ _) hbig⟩
        · exact hR lot hm) (by rw [List.flatten_cons]; exact pr)
      obtain ⟨A, B, rfl⟩ := List.append_of_mem (hpm.mem_iff.mpr (List.mem_cons_self : u ∈ u :: (L1 ++ L2)))
      refine fin _ hb A.length (by simp) ?_
      rw [putIn_mid]
      have p1 : (A ++ B).Perm (L1 ++ L2) := (List.perm_cons u).mp (List.perm_middle.symm.trans hpm)
      exact List.perm_middle.trans (p1.cons _)
/-! the least number of belts' lots -/
theorem belt_ge {my : List Int → Bool} (hs : ∀ s t : List Int, s.Sublist t → my t = true → my s = true) (hpm : ∀ s t : List Int, s.Perm t → my s = my t) {m : Nat} (h1 : ∀ a : Int, 0 ≤ a ∧ a < m → my [a] = true) {f : Int} (hf : fewV my m = some f) {o : List Int} (ho : o.Perm (rI m)) : f ≤ cntB my o := by
  have hnd : Nd m o := nd_perm ho.symm (asc_nd (rI_asc m))
  have hg := raw_good (my := my) (o := o) fun x hx => h1 x (hnd.2 x hx)
  obtain ⟨bags, hb, hpm2⟩ := parts hs m ((rawB my o).map srt) (fun lot hl => by
    obtain ⟨l, hl', rfl⟩ := List.mem_map.mp hl
    have hsb := sub_flat hl'
    rw [raw_flat] at hsb
    exact ⟨srt_asc (nd_sub hsb hnd), srt_ne (hg l hl').1, by rw [hpm _ _ (srt_perm l)]; exact (hg l hl').2⟩) (by
    have key : ∀ L : List (List Int), (L.map srt).flatten.Perm L.flatten := fun L => by
      induction L with
      | nil => exact List.Perm.refl _
      | cons a L ih => rw [List.map_cons, List.flatten_cons, List.flatten_cons]; exact (srt_perm a).append ih
    exact (key _).trans (by rw [raw_flat]; exact ho))
  have := (mn_iff.mp hf).2 (bags.length : Int) (List.mem_map.mpr ⟨bags, hb, rfl⟩)
  have hl := hpm2.length_eq
  rw [List.length_map] at hl
  unfold cntB
  omega
def cst (st : List (List Int) × List Int) : Nat := (lotsB st).length
theorem cst_st (my : List Int → Bool) (st : List (List Int) × List Int) (x : Int) : cst (stB my st x) = if (!st.2.isEmpty && my (st.2 ++ [x])) = true then cst st else cst st + 1 := by
  unfold cst
  rw [lots_st]
  split
  · rename_i h
    rw [Bool.and_eq_true, Bool.not_eq_true'] at h
    unfold lotsB
    rw [h.1, if_neg (by simp)]
    simp
  · simp
theorem greedy1 {my : List Int → Bool} (hs : ∀ s t : List Int, s.Sublist t → my t = true → my s = true) {b : List Int} (hb : my b = true) (c0 : Nat) : ∀ (r p : List Int) (st : List (List Int) × List Int), b = p ++ r → (cst st ≤ c0 ∨ (cst st ≤ c0 + 1 ∧ st.2 ≠ [] ∧ st.2.Sublist p)) → cst (r.foldl (stB my) st) ≤ c0 + 1
  | [], p, st, _, h => by
    rw [List.foldl_nil]
    rcases h with h | h
    · omega
    · exact h.1
  | x :: r, p, st, e, h => by
    rw [List.foldl_cons]
    refine greedy1 hs hb c0 r (p ++ [x]) _ (by rw [e]; simp) ?_
    rw [cst_st]
    by_cases hc : (!st.2.isEmpty && my (st.2 ++ [x])) = true
    · rw [if_pos hc]
      rcases h with h | ⟨h1, h2, h3⟩
      · exact .inl h
      · refine .inr ⟨h1, ?_, ?_⟩
        · unfold stB; rw [if_pos hc]; simp
        · unfold stB; rw [if_pos hc]; exact h3.append (List.Sublist.refl _)
    · rw [if_neg hc]
      rcases h with h | ⟨h1, h2, h3⟩
      · refine .inr ⟨by omega, ?_, ?_⟩
        · unfold stB; rw [if_neg hc]; simp
        · unfold stB; rw [if_neg hc]; exact List.sublist_append_right _ _
      · exfalso
        refine hc ?_
        rw [Bool.and_eq_true]
        refine ⟨by cases hq : st.2 with | nil => exact absurd hq h2 | cons a q => rfl, hs _ b ?_ hb⟩
        rw [e, show p ++ x :: r = (p ++ [x]) ++ r by simp]
        exact (h3.append (List.Sublist.refl [x])).trans (List.sublist_append_left _ _)
theorem greedy {my : List Int → Bool} (hs : ∀ s t : List Int, s.Sublist t → my t = true → my s = true) : ∀ (bs : List (List Int)) (st : List (List Int) × List Int), (∀ b ∈ bs, my b = true) → cst (bs.flatten.foldl (stB my) st) ≤ cst st + bs.length
  | [], st, _ => Nat.le_refl _
  | b :: bs, st, h => by
    rw [List.flatten_cons, List.foldl_append]
    have h1 := greedy1 hs (h b List.mem_cons_self) (cst st) b [] st rfl (.inl (Nat.le_refl _))
    have h2 := greedy hs bs (b.foldl (stB my) st) fun c hc => h c (List.mem_cons_of_mem _ hc)
    rw [List.length_cons]
    omega
theorem belt_le {my : List Int → Bool} (hs : ∀ s t : List Int, s.Sublist t → my t = true → my s = true) {m : Nat} {f : Int} (hf : fewV my m = some f) : ∃ o : List Int, o.Perm (rI m) ∧ cntB my o ≤ f := by
  obtain ⟨bags, hb, rfl⟩ := List.mem_map.mp (mn_iff.mp hf).1
  refine ⟨bags.flatten, allA_flat my m bags hb, ?_⟩
  have := greedy hs bags ([], []) fun b hb' => ((allA_ok my m bags hb).my b hb').1
  unfold cntB
  have e : cst (([], []) : List (List Int) × List Int) = 0 := rfl
  unfold cst at this e
  rw [e] at this
  unfold rawB
  omega
/-! orders -/
def ordsA (m : Nat) : Nat → List (List Int)
  | 0 => [[]]
  | t + 1 => (ordsA m t).flatMap fun row => ((rI m).filter fun a => !decide (a ∈ row)).map fun a => row ++ [a]
theorem ords_mem {m : Nat} : ∀ {t : Nat} {o : List Int}, o ∈ ordsA m t ↔ Nd m o ∧ o.length = t
  | 0, o => by
    unfold ordsA
    rw [List.mem_singleton]
    constructor
    · rintro rfl; exact ⟨⟨List.nodup_nil, by simp⟩, rfl⟩
    · rintro ⟨_, h⟩; exact List.eq_nil_of_length_eq_zero h
  | t + 1, o => by
    unfold ordsA
    rw [List.mem_flatMap]
    constructor
    · rintro ⟨row, hr, ho⟩
      obtain ⟨a, ha, rfl⟩ := List.mem_map.mp ho
      obtain ⟨h1, h2⟩ := ords_mem.mp hr
      obtain ⟨h3, h4⟩ := List.mem_filter.mp ha
      exact ⟨nd_app h1 ((rI_asc m).2 a h3) (by simpa using h4), by simp [h2]⟩
    · rintro ⟨h1, h2⟩
      have hne : o ≠ [] := by rintro rfl; simp at h2
      obtain ⟨a, ea⟩ : ∃ a, a = o.getLast hne := ⟨_, rfl⟩
      have e : o = o.dropLast ++ [a] := by rw [ea]; exact (List.dropLast_concat_getLast hne).symm
      generalize o.dropLast = row at e
      subst e
      have hnd := List.nodup_append.mp h1.1
      refine ⟨row, ords_mem.mpr ⟨nd_sub (List.sublist_append_left _ _) h1, by simpa using h2⟩, List.mem_map.mpr ⟨a, List.mem_filter.mpr ⟨?_, ?_⟩, rfl⟩⟩
      · obtain ⟨b1, b2⟩ := h1.2 a (by simp)
        exact List.mem_map.mpr ⟨a.toNat, List.mem_range.mpr (by omega), by omega⟩
      · have : a ∉ row := fun h => hnd.2.2 a h a (by simp) rfl
        simpa using this
theorem nd_perm_rI {m : Nat} {o : List Int} (h : Nd m o) (hl : o.length = m) : o.Perm (rI m) := by
  have h1 := asc_full (srt_asc h) (by rw [(srt_perm o).length_eq, hl]; exact Nat.le_refl _)
  rw [← h1]
  exact (srt_perm o).symm
theorem ords_perm {m : Nat} {o : List Int} : o ∈ ordsA m m ↔ o.Perm (rI m) := by
  rw [ords_mem]
  constructor
  · rintro ⟨h1, h2⟩; exact nd_perm_rI h1 h2
  · intro h; exact ⟨nd_perm h.symm (asc_nd (rI_asc m)), by rw [h.length_eq, rI_len]⟩
theorem ords_small : ∀ m : Fin 7, (∀ t : Fin 8, (ordsA m.val t.val).length ≤ 1000) ∧ upB (ordsA m.val m.val) = true ∧ 1 ≤ (ordsA m.val m.val).length := by decide +kernel
end Lw

/-! FC: orders, walked. -/
namespace Lw
open PySem PySem.Spec Pv
def ordR (m : Nat) (row : List Int) : List (List Int) := ((rI m).filter fun a => !decide (a ∈ row)).map fun a => row ++ [a]
def gO (row : List Int) : PV → Option PV
  | .int a => if (!decide (a ∈ row)) = true then some (CV (row ++ [a])) else none
  | _ => none
theorem gO_map (row : List Int) : ∀ l : List Int, (l.map PV.int).filterMap (gO row) = ((l.filter fun a => !decide (a ∈ row)).map fun a => row ++ [a]).map CV
  | [] => rfl
  | a :: l => by
    by_cases h : (!decide (a ∈ row)) = true
    · rw [List.map_cons, List.filterMap_cons_some (f := gO row) (b := CV (row ++ [a])) (by simp only [gO]; rw [if_pos h]), gO_map row l, List.filter_cons_of_pos (p := fun a => !decide (a ∈ row)) h]
      rfl
    · rw [List.map_cons, List.filterMap_cons_none (by simp only [gO]; rw [if_neg h]), gO_map row l, List.filter_cons_of_neg (p := fun a => !decide (a ∈ row)) h]
theorem r1_rI {m : Nat} (N : Int) (hN : N = m) (h : m ≤ 1000) : range1 (.int N) = some ((rI m).map .int) := by
  rw [hN, r1_nat (by omega)]; unfold rI; rw [List.map_map]; rfl
def gOl (m : Nat) : PV → List PV := fun p => (ordR m (keyD p)).map CV
theorem gOl_map (m : Nat) : ∀ rows : List (List Int), (rows.map CV).flatMap (gOl m) = (rows.flatMap (ordR m)).map CV
  | [] => rfl
  | r :: rows => by
    rw [List.map_cons, List.flatMap_cons, gOl_map m rows, List.flatMap_cons, List.map_append]
    unfold gOl
    rw [keyD_CV]
def o1E : E := .comp2 (.bin .add (.var 3) (.tup (.cons (.var 4) .nil))) (.name 3) (.val (.var 1)) .nil (.name 4) (.r1 (.var 0)) (.cons (.cmp .notin (.var 4) (.var 3)) .nil) [3, 4] [4]
theorem o1_ev (ff : Nat → List PV → M PV) {m : Nat} (N : Int) (hN : N = m) (m7 : m ≤ 7) {rows : List (List Int)} (hr : ∀ r ∈ rows, r.length ≤ 100) (hl : (rows.flatMap (ordR m)).length ≤ 1000000) (s2 : Slot) (st : Sto) : evE ff o1E [.val (.int N), .val (.lst (rows.map CV)), s2, .no, .no] st = .ok (.lst ((rows.flatMap (ordR m)).map CV)) st := by
  have hr1 := r1_rI N hN (by omega)
  have es : seqOf (.lst (rows.map CV)) = some (rows.map CV) := rfl
  generalize PV.lst (rows.map CV) = L at es ⊢
  unfold o1E
  have ei : evI ff (.val (.var 1)) [.val (.int N), .val L, s2, .no, .no] st = .ok (rows.map CV) st := by
    simp [evI, evE, look, rdV, opt_some, bnd_ret, es, M.ret]
  apply wM_eq
  rw [evE, wM_bnd, wM_of ei, wM_bnd, wM_nox]
  rw [wM_of (compLL_pure (gOl m) fun x hx => ?_)]
  · rw [gOl_map, if_pos (by rw [List.length_map]; exact hl), wM_ret]
    exact ⟨rfl, rfl⟩
  · obtain ⟨row, hrow, rfl⟩ := List.mem_map.mp hx
    have hlen := hr row hrow
    have e3 : gOl m (CV row) = ((rI m).map PV.int).filterMap (gO row) := by
      rw [gO_map]
      unfold gOl ordR
      rw [keyD_CV]
    rw [e3]
    have hni := fun a => notin_CV a row
    have had := fun a => addCV row a (by omega)
    generalize hR : CV row = R at hni had ⊢
    have ei2 : evI ff (.r1 (.var 0)) [.val (.int N), .val L, s2, .val R, .no] st = .ok ((rI m).map .int) st := by
      generalize (rI m).map PV.int = Z at hr1 ⊢
      simp [evI, evE, look, rdV, opt_some, bnd_ret, hr1, M.ret]
    simp only [bindG_name, List.length_cons, List.length_nil, wipeE, put, if_pos (show 3 < 0 + 1 + 1 + 1 + 1 + 1 by decide)]
    simp only [evTs, bnd_ret]
    apply wM_eq
    rw [wM_bnd, wM_of ei2, wM_of (compL_pure (gO row) fun y hy => ?_)]
    · exact ⟨rfl, rfl⟩
    · obtain ⟨a, ha, rfl⟩ := List.mem_map.mp hy
      have h1 := hni a
      have h2 := had a
      simp only [bindG_name, List.length_cons, List.length_nil, wipeE, put, if_pos (show 4 < 0 + 1 + 1 + 1 + 1 + 1 by decide)]
      simp only [gO]
      generalize CV (row ++ [a]) = Y at h2 ⊢
      by_cases hm : a ∈ row
      · simp [evTs, evT, evE, look, rdV, opt_some, bnd_ret, M.bnd, M.ret, h1, hm, truthP]
      · simp [evTs, evT, evE, evEs, look, rdV, opt_some, bnd_ret, M.bnd, M.ret, h1, hm, truthP, h2]
theorem ords_b {m t : Nat} (hm : m ≤ 6) (ht : t ≤ 7) : (ordsA m t).length ≤ 1000 := (ords_small ⟨m, by omega⟩).1 ⟨t, by omega⟩
theorem ords_rl {m t : Nat} {r : List Int} (h : r ∈ ordsA m t) : r.length = t := (ords_mem.mp h).2
theorem ok_oof (n m : Nat) (N : Int) (hN : N = m) (m6 : m ≤ 6) (st : Sto) : callN ds (n + 1) 14 [.int N] st = .ok (.lst ((ordsA m m).map CV)) st := by
  have hr1 := r1_rI N hN (by omega)
  apply wM_eq
  rw [wM_call (d := d14) rfl rfl]
  show wS (evSs (callN ds n) (.cons (.asg (.name 1) (.lst (.cons (.tup .nil) .nil))) (.cons (.for (.name 2) (.r1 (.var 0)) b14_l0 [2]) (.cons (.ret (.var 1)) .nil))) [.val (.int N), .no, .no, .no, .no] st) _
  rw [wS_asgN (by show 1 < 5; decide), wM_of (show evE (callN ds n) (.lst (.cons (.tup .nil) .nil)) [.val (.int N), .no, .no, .no, .no] st = .ok (.lst ((ordsA m 0).map CV)) st from rfl)]
  have ei : ∀ s1, evI (callN ds n) (.r1 (.var 0)) [.val (.int N), s1, .no, .no, .no] st = .ok ((rI m).map .int) st := fun s1 => by
    generalize (rI m).map PV.int = Z at hr1 ⊢
    simp [evI, evE, look, rdV, opt_some, bnd_ret, hr1, M.ret]
  show wS (evSs (callN ds n) _ [.val (.int N), .val (.lst ((ordsA m 0).map CV)), .no, .no, .no] st) _
  rw [wS_for (ei _)]
  refine wFor (fun i env st' => env = [.val (.int N), .val (.lst ((ordsA m i).map CV)), .no, .no, .no] ∧ st' = st) ?_ ?_ _ _ ⟨rfl, rfl⟩
  · rintro i y env st' hy ⟨rfl, rfl⟩
    have hi : i < m := by
      have := (List.getElem?_eq_some_iff.mp hy).1
      rwa [List.length_map, rI_len] at this
    have h := o1_ev (callN ds n) N hN (by omega) (rows := ordsA m i) (fun r hr => by rw [ords_rl hr]; omega) (by
      have := ords_b m6 (t := i + 1) (by omega)
      show (ordsA m (i + 1)).length ≤ _
      omega) (.val y) st'
    show wS (evSs (callN ds n) (.cons (.asg (.name 1) o1E) .nil) [.val (.int N), .val (.lst ((ordsA m i).map CV)), .val y, .no, .no] st') _
    rw [wS_asgN (by show 1 < 5; decide), wM_of h, wS_nil]
    exact ⟨rfl, rfl⟩
  · rintro env st' ⟨rfl, rfl⟩
    rw [List.length_map, rI_len, nx_nx, wS_ret]
    exact ⟨rfl, rfl⟩
/-! the law's orders -/
def o2C : E := .comp (.bin .add (.var 4) (.tup (.cons (.var 5) .nil))) (.name 5) (.r1 (.var 0)) (.cons (.cmp .notin (.var 5) (.var 4)) .nil) [5]
theorem o2_ev (ff : Nat → List PV → M PV) {m : Nat} (N : Int) (hN : N = m) (m7 : m ≤ 7) {row : List Int} (hr : row.length ≤ 100) (s1 s2 s3 : Slot) (st : Sto) : evE ff o2C [.val (.int N), s1, s2, s3, .val (CV row), .no] st = .ok (.lst ((ordR m row).map CV)) st := by
  have hr1 := r1_rI N hN (by omega)
  have hni := fun a => notin_CV a row
  have had := fun a => addCV row a (by omega)
  unfold o2C
  generalize CV row = R at hni had ⊢
  have ei2 : evI ff (.r1 (.var 0)) [.val (.int N), s1, s2, s3, .val R, .no] st = .ok ((rI m).map .int) st := by
    generalize (rI m).map PV.int = Z at hr1 ⊢
    simp [evI, evE, look, rdV, opt_some, bnd_ret, hr1, M.ret]
  apply wM_eq
  rw [evE, wM_bnd, wM_of ei2, wM_bnd, wM_nox, wM_of (compL_pure (gO row) fun y hy => ?_)]
  · rw [gO_map]
    exact ⟨rfl, rfl⟩
  · obtain ⟨a, ha, rfl⟩ := List.mem_map.mp hy
    have h1 := hni a
    have h2 := had a
    simp only [bindG_name, List.length_cons, List.length_nil, wipeE, put, if_pos (show 5 < 0 + 1 + 1 + 1 + 1 + 1 + 1 by decide)]
    simp only [gO]
    generalize CV (row ++ [a]) = Y at h2 ⊢
    by_cases hm : a ∈ row
    · simp [evTs, evT, evE, look, rdV, opt_some, bnd_ret, M.bnd, M.ret, h1, hm, truthP]
    · simp [evTs, evT, evE, evEs, look, rdV, opt_some, bnd_ret, M.bnd, M.ret, h1, hm, truthP, h2]
theorem addLL (a b : List (List Int)) (h : a.length + b.length ≤ 1000000) : binP .add (.lst (a.map CV)) (.lst (b.map CV)) = some (.lst ((a ++ b).map CV)) := by
  show (if _ then _ else _) = _
  rw [if_pos (by simpa using h), List.map_append]
theorem flat_len {m : Nat} : ∀ rows : List (List Int), (rows.flatMap (ordR m)).length ≤ rows.length * m
  | [] => by simp
  | r :: rows => by
    have ih := flat_len (m := m) rows
    rw [List.flatMap_cons, List.length_append, List.length_cons, Nat.succ_mul]
    have : (ordR m r).length ≤ m := by
      unfold ordR
      rw [List.length_map]
      exact Nat.le_trans (List.length_filter_le _ _) (by rw [rI_len]; exact Nat.le_refl _)
    omega
theorem ok_lord (n m : Nat) (N : Int) (hN : N = m) (m6 : m ≤ 6) (st : Sto) : callN ds (n + 1) 25 [.int N] st = .ok (.lst ((ordsA m m).map CV)) st := by
  have hr1 := r1_rI N hN (by omega)
  apply wM_eq
  rw [wM_call (d := d25) rfl rfl]
  show wS (evSs (callN ds n) (.cons (.asg (.name 1) (.lst (.cons (.tup .nil) .nil))) (.cons (.for (.name 2) (.r1 (.var 0)) b25_l1 [2, 3, 4]) (.cons (.ret (.var 1)) .nil))) [.val (.int N), .no, .no, .no, .no, .no] st) _
  rw [wS_asgN (by show 1 < 6; decide), wM_of (show evE (callN ds n) (.lst (.cons (.tup .nil) .nil)) [.val (.int N), .no, .no, .no, .no, .no] st = .ok (.lst ((ordsA m 0).map CV)) st from rfl)]
  have ei : ∀ s1, evI (callN ds n) (.r1 (.var 0)) [.val (.int N), s1, .no, .no, .no, .no] st = .ok ((rI m).map .int) st := fun s1 => by
    generalize (rI m).map PV.int = Z at hr1 ⊢
    simp [evI, evE, look, rdV, opt_some, bnd_ret, hr1, M.ret]
  show wS (evSs (callN ds n) _ [.val (.int N), .val (.lst ((ordsA m 0).map CV)), .no, .no, .no, .no] st) _
  rw [wS_for (ei _)]
  refine wFor (fun i env st' => env = [.val (.int N), .val (.lst ((ordsA m i).map CV)), .no, .no, .no, .no] ∧ st' = st) ?_ ?_ _ _ ⟨rfl, rfl⟩
  · rintro i y env st' hy ⟨rfl, rfl⟩
    have hi : i < m := by
      have := (List.getElem?_eq_some_iff.mp hy).1
      rwa [List.length_map, rI_len] at this
    show wS (evSs (callN ds n) (.cons (.asg (.name 3) (.lst .nil)) (.cons (.kill [2]) (.cons (.for (.name 4) (.val (.var 1)) b25_l0 [4]) (.cons (.asg (.name 1) (.var 3)) .nil)))) [.val (.int N), .val (.lst ((ordsA m i).map CV)), .val y, .no, .no, .no] st') _
    rw [wS_asgN (by show 3 < 6; decide), evE, evEs, bnd_ret, wM_ret, wS_kill]
    have e0 : ordsA m (i + 1) = (ordsA m i).flatMap (ordR m) := rfl
    have hb := ords_b m6 (t := i) (by omega)
    have hrl := fun r (hr : r ∈ ordsA m i) => ords_rl hr
    rw [e0]
    generalize ordsA m i = rows at hb hrl ⊢
    show wS (evSs (callN ds n) _ [.val (.int N), .val (.lst (rows.map CV)), .no, .val (.lst (((rows.take 0).flatMap (ordR m)).map CV)), .no, .no] st') _
    have ej : evI (callN ds n) (.val (.var 1)) [.val (.int N), .val (.lst (rows.map CV)), .no, .val (.lst (((rows.take 0).flatMap (ordR m)).map CV)), .no, .no] st' = .ok (rows.map CV) st' := by
      have es : seqOf (.lst (rows.map CV)) = some (rows.map CV) := rfl
      generalize PV.lst (rows.map CV) = L at es ⊢
      simp [evI, evE, look, rdV, opt_some, bnd_ret, es, M.ret]
    rw [wS_for ej]
    refine wFor (fun j env st => env = [.val (.int N), .val (.lst (rows.map CV)), .no, .val (.lst (((rows.take j).flatMap (ordR m)).map CV)), .no, .no] ∧ st = st') ?_ ?_ _ _ ⟨rfl, rfl⟩
    · rintro j y2 env st2 hy2 ⟨rfl, rfl⟩
      have hj : j < rows.length := by
        have := (List.getElem?_eq_some_iff.mp hy2).1
        rwa [List.length_map] at this
      rw [List.getElem?_map, List.getElem?_eq_getElem hj] at hy2
      simp only [Option.map_some, Option.some.injEq] at hy2
      subst hy2
      have hmem := List.getElem_mem hj
      have hlr := hrl _ hmem
      rw [List.take_succ_eq_append_getElem hj, List.flatMap_append]
      generalize rows[j] = row at hmem hlr ⊢
      have h := o2_ev (callN ds n) N hN (by omega) (row := row) (by omega) (.val (.lst (rows.map CV))) .no (.val (.lst (((rows.take j).flatMap (ordR m)).map CV))) st2
      have hl1 := flat_len (m := m) (rows.take j)
      have hl2 := flat_len (m := m) [row]
      have hl3 : (rows.take j).length ≤ 1000 := by rw [List.length_take]; omega
      have hl4 : ((rows.take j).flatMap (ordR m)).length ≤ 6000 := Nat.le_trans hl1 (Nat.le_trans (Nat.mul_le_mul hl3 m6) (by decide))
      have hl5 : (ordR m row).length ≤ 6 := by simp at hl2; omega
      have ha := addLL ((rows.take j).flatMap (ordR m)) (ordR m row) (by omega)
      show wS (evSs (callN ds n) (.cons (.asg (.name 3) (.bin .add (.var 3) o2C)) .nil) [.val (.int N), .val (.lst (rows.map CV)), .no, .val (.lst (((rows.take j).flatMap (ordR m)).map CV)), .val (CV row), .no] st2) _
      rw [wS_asgN (by show 3 < 6; decide), evE, wM_bnd, wM_of (show evE (callN ds n) (.var 3) [.val (.int N), .val (.lst (rows.map CV)), .no, .val (.lst (((rows.take j).flatMap (ordR m)).map CV)), .val (CV row), .no] st2 = .ok (.lst (((rows.take j).flatMap (ordR m)).map CV)) st2 from rfl), wM_bnd, wM_of h, ha, wM_some, wS_nil]
      refine ⟨?_, rfl⟩
      rw [show [row].flatMap (ordR m) = ordR m row by simp]
      rfl
    · rintro env st2 ⟨rfl, rfl⟩
      rw [List.length_map, List.take_length, nx_nx, wS_asgN (by show 1 < 6; decide), wM_of (show evE (callN ds n) (.var 3) [.val (.int N), .val (.lst (rows.map CV)), .no, .val (.lst ((rows.flatMap (ordR m)).map CV)), .no, .no] st2 = .ok (.lst ((rows.flatMap (ordR m)).map CV)) st2 from rfl), wS_nil]
      exact ⟨rfl, rfl⟩
  · rintro env st' ⟨rfl, rfl⟩
    rw [List.length_map, rI_len, nx_nx, wS_ret]
    exact ⟨rfl, rfl⟩
end Lw

/-! FD: belts, walked. -/
namespace Lw
open PySem PySem.Spec Pv
theorem emp_app {α : Type} (a b : List α) : (a ++ b).isEmpty = (a.isEmpty && b.isEmpty) := by cases a <;> rfl
theorem ne_nilL (l : List (List Int)) : cmpP .ne (.lst (l.map CV)) (.lst []) = some (.bl (!l.isEmpty)) := by
  have h := eq_nilL l
  have e : (eqP (.lst (l.map CV)) (.lst [])).map PV.bl = some (.bl l.isEmpty) := h
  show (eqP (.lst (l.map CV)) (.lst [])).map (fun c => PV.bl (!c)) = _
  cases hq : eqP (.lst (l.map CV)) (.lst []) with
  | none => rw [hq] at e; cases e
  | some v =>
    rw [hq] at e
    simp only [Option.map_some, Option.some.injEq, PV.bl.injEq] at e
    rw [e]; rfl
theorem ne_CC (a b : List Int) : cmpP .ne (CV a) (CV b) = some (.bl (!decide (a = b))) := by
  show (eqP (CV a) (CV b)).map (fun c => PV.bl (!c)) = _
  unfold eqP
  rw [okD_CV, okD_CV, Bool.and_self, if_pos rfl, eqB_CV]
  rfl
theorem ne_C0 (a : List Int) : cmpP .ne (CV a) (.tup []) = some (.bl (!a.isEmpty)) := by
  have h := ne_CC a []
  rw [show CV [] = PV.tup [] from rfl] at h
  rw [h]
  cases a <;> simp
theorem srt_CVt (s : List Int) (hl : s.length ≤ 1000) : bfP .sorted [CV s] = some (.lst ((srt s).map .int)) := srt_int s hl
theorem ix_last (ys : List (List Int)) (z : List Int) : M.ix (.lst ((ys ++ [z]).map CV)) (.int (-1)) = M.ret (CV z) := by
  rw [ix_lst]
  unfold atL
  rw [if_neg (by omega), if_pos (by simp; omega)]
  have e : ((((ys ++ [z]).map CV).length : Int) + -1).toNat = (ys.map CV).length := by simp; omega
  rw [e, List.map_append]
  simp
  rfl
theorem set_last (ys : List (List Int)) (z w : List Int) : setN ((ys ++ [z]).map CV) (-1) (CV w) = some ((ys ++ [w]).map CV) := by
  unfold setN
  rw [if_neg (by omega), if_pos ⟨by omega, by simp; omega⟩]
  have e : ((((ys ++ [z]).map CV).length : Int) + -1).toNat = (ys.map CV).length := by simp; omega
  rw [e, List.map_append, List.map_append]
  simp
def stE : E := .bc .tuple (.cons (.bc .sorted (.cons (.bin .add (.ix (.own 2) (.neg (.int 1))) (.tup (.cons (.var 3) .nil))) .nil)) .nil)
theorem st_ev (ff : Nat → List PV → M PV) (B O : PV) (ys : List (List Int)) (z : List Int) (x : Int) (hz : z.length ≤ 900) (st : Sto) : evE ff stE [.val B, .val O, .own (.lst ((ys ++ [z]).map CV)), .val (.int x)] st = .ok (CV (srt (z ++ [x]))) st := by
  have h1 := ix_last ys z
  have h2 := addCV z x (by omega)
  have h3 := srt_CVt (z ++ [x]) (by simp; omega)
  have h4 := tupL ((srt (z ++ [x])).map .int)
  rw [show PV.tup ((srt (z ++ [x])).map .int) = CV (srt (z ++ [x])) from rfl] at h4
  unfold stE
  generalize PV.lst ((ys ++ [z]).map CV) = L at h1 ⊢
  generalize CV z = Z at h1 h2
  generalize CV (z ++ [x]) = Y at h2 h3
  generalize PV.lst ((srt (z ++ [x])).map .int) = T at h3 h4
  generalize CV (srt (z ++ [x])) = R at h4 ⊢
  simp [evE, evEs, look, rdV, rdO, opt_some, bnd_ret, negP, h1, h2, h3, h4, M.ret]
/-- a belt's state -/
def BtOk (m : Nat) (st : List (List Int) × List Int) : Prop := (st.2 = [] → st.1 = []) ∧ Nd m st.2
theorem stB_ok {my : List Int → Bool} {m : Nat} {st : List (List Int) × List Int} {x : Int} (h : BtOk m st) (hx : 0 ≤ x ∧ x < m) (hn : x ∉ st.2) : BtOk m (stB my st x) := by
  unfold stB
  split
  · exact ⟨fun e => by simp at e, nd_app h.2 hx hn⟩
  · exact ⟨fun e => by simp at e, ⟨by simp, fun y hy => by rw [List.mem_singleton.mp hy]; exact hx⟩⟩
def SL (st : List (List Int) × List Int) : List (List Int) := (lotsB st).map srt
theorem srt_one (x : Int) : srt [x] = [x] := by simp [srt]
theorem SL_st (my : List Int → Bool) (st : List (List Int) × List Int) (x : Int) : SL (stB my st x) = if (!st.2.isEmpty && my (st.2 ++ [x])) = true then st.1.map srt ++ [srt (st.2 ++ [x])] else SL st ++ [[x]] := by
  unfold SL
  rw [lots_st]
  split
  · rw [List.map_append]; rfl
  · rw [List.map_append, List.map_cons, List.map_nil, srt_one]
theorem SL_ne {st : List (List Int) × List Int} (h : st.2 ≠ []) : SL st = st.1.map srt ++ [srt st.2] := by
  unfold SL lotsB
  rw [if_neg (by cases hq : st.2 with | nil => exact absurd hq h | cons a q => simp), List.map_append]
  rfl
theorem srt_step (z : List Int) (x : Int) : srt (srt z ++ [x]) = srt (z ++ [x]) := srt_eq ((srt_perm z).append_right [x])
def bcT : T := .bo true (.cons (.cmp .ne (.own 2) (.lst .nil)) (.cons (.e (.call 8 (.cons (.var 0) (.cons stE .nil)))) .nil))
theorem nd_len {m : Nat} {s : List Int} (h : Nd m s) : s.length ≤ m := by
  have := asc_len (srt_asc h)
  rwa [(srt_perm s).length_eq] at this
theorem bc_ev (n : Nat) {b p : Int} {ws : List Int} {prs : List (List Int)} (k : LOk b p ws prs) {st : List (List Int) × List Int} (h : BtOk ws.length st) {x : Int} (hx : 0 ≤ x ∧ x < ws.length) (hn : x ∉ st.2) (O : PV) (sto : Sto) : evT (callN ds (n + 2)) bcT [.val (LV b p ws prs), .val O, .own (.lst ((SL st).map CV)), .val (.int x)] sto = .ok (!st.2.isEmpty && may b p ws prs (st.2 ++ [x])) sto := by
  have w7 := k.w7
  have h0 := ne_nilL (SL st)
  by_cases he : st.2 = []
  · have e1 : SL st = [] := by unfold SL lotsB; rw [he, h.1 he]; rfl
    rw [e1] at h0 ⊢
    rw [he]
    unfold bcT
    generalize LV b p ws prs = B
    generalize PV.lst (List.map CV []) = L at h0 ⊢
    simp [evT, evBoT, evE, evEs, look, rdV, rdO, opt_some, bnd_ret, M.bnd, M.ret, h0, truthP]
  · have hl := nd_len h.2
    have hs := st_ev (callN ds (n + 2)) (LV b p ws prs) O (st.1.map srt) (srt st.2) x (by rw [(srt_perm st.2).length_eq]; omega) sto
    rw [srt_step, ← SL_ne he] at hs
    have hnd := nd_app h.2 hx hn
    have hm := ok_may n k (lot := srt (st.2 ++ [x])) (srt_asc hnd).2 sto
    rw [may_perm (srt_perm (st.2 ++ [x]))] at hm
    have e2 : st.2.isEmpty = false := by cases hq : st.2 with | nil => exact absurd hq he | cons a q => rfl
    have e3 : (SL st).isEmpty = false := by rw [SL_ne he, emp_app]; simp
    rw [e3] at h0
    rw [e2]
    unfold bcT
    generalize may b p ws prs (st.2 ++ [x]) = r at hm ⊢
    generalize CV (srt (st.2 ++ [x])) = Y at hs hm
    generalize LV b p ws prs = B at hs hm ⊢
    generalize PV.lst ((SL st).map CV) = L at h0 hs ⊢
    generalize stE = S at hs ⊢
    cases r <;> simp [evT, evBoT, evE, evEs, look, rdV, rdO, opt_some, bnd_ret, M.bnd, M.ret, h0, hs, hm, truthP]
theorem foldl_take {α β : Type} (f : β → α → β) (b : β) (l : List α) {i : Nat} (hi : i < l.length) : (l.take (i + 1)).foldl f b = f ((l.take i).foldl f b) l[i] := by
  rw [List.take_succ_eq_append_getElem hi, List.foldl_append]
  rfl
theorem here_sub (my : List Int → Bool) : ∀ (o : List Int) (st : List (List Int) × List Int) (p : List Int), st.2.Sublist p → (o.foldl (stB my) st).2.Sublist (p ++ o)
  | [], st, p, h => by simpa using h
  | x :: o, st, p, h => by
    rw [List.foldl_cons, show p ++ x :: o = (p ++ [x]) ++ o by simp]
    refine here_sub my o _ _ ?_
    unfold stB
    split
    · exact h.append (List.Sublist.refl _)
    · exact List.sublist_append_right _ _
theorem take_fresh {o : List Int} (hnd : o.Nodup) {i : Nat} (hi : i < o.length) : o[i] ∉ o.take i := fun h => by
  obtain ⟨j, hj, e⟩ := List.mem_iff_getElem.mp h
  rw [List.getElem_take] at e
  have hj' : j < i := by rw [List.length_take] at hj; omega
  have := (List.nodup_iff_pairwise_ne.mp hnd)
  rw [List.pairwise_iff_getElem] at this
  exact this j i (by omega) hi hj' e
def stO (my : List Int → Bool) (o : List Int) (i : Nat) : List (List Int) × List Int := (o.take i).foldl (stB my) ([], [])
theorem stO_succ (my : List Int → Bool) (o : List Int) {i : Nat} (hi : i < o.length) : stO my o (i + 1) = stB my (stO my o i) o[i] := foldl_take _ _ _ hi
theorem stO_fresh {my : List Int → Bool} {m : Nat} {o : List Int} (h : Nd m o) {i : Nat} (hi : i < o.length) : o[i] ∉ (stO my o i).2 := fun hm => by
  have := (here_sub my (o.take i) ([], []) [] (List.Sublist.refl _)).subset hm
  rw [List.nil_append] at this
  exact take_fresh h.1 hi this
theorem stO_ok {my : List Int → Bool} {m : Nat} {o : List Int} (h : Nd m o) : ∀ {i : Nat}, i ≤ o.length → BtOk m (stO my o i)
  | 0, _ => ⟨fun _ => rfl, ⟨List.nodup_nil, fun x hx => by cases hx⟩⟩
  | i + 1, hi => by
    rw [stO_succ my o (by omega)]
    exact stB_ok (stO_ok h (by omega)) (h.2 _ (List.getElem_mem (by omega))) (stO_fresh h (by omega))
theorem stO_all (my : List Int → Bool) (o : List Int) : lotsB (stO my o o.length) = rawB my o := by
  unfold stO rawB
  rw [List.take_length]
theorem SL_len (my : List Int → Bool) (o : List Int) : ∀ {i : Nat}, i ≤ o.length → (SL (stO my o i)).length ≤ i
  | 0, _ => by simp [SL, stO, lotsB]
  | i + 1, hi => by
    have ih := SL_len my o (i := i) (by omega)
    rw [stO_succ my o (by omega), SL_st]
    split
    · rename_i hc
      rw [Bool.and_eq_true, Bool.not_eq_true'] at hc
      have he : (stO my o i).2 ≠ [] := fun e => by rw [e] at hc; simp at hc
      rw [SL_ne he] at ih
      simp at ih ⊢
      omega
    · simp; omega
def BL (my : List Int → Bool) (o : List Int) : List (List Int) := (rawB my o).map srt
theorem ok_beltin (n : Nat) {b p : Int} {ws : List Int} {prs : List (List Int)} (k : LOk b p ws prs) {o : List Int} (h : Nd ws.length o) (sto : Sto) : callN ds (n + 3) 13 [LV b p ws prs, CV o] sto = .ok (.lst ((BL (may b p ws prs) o).map CV)) sto := by
  have w7 := k.w7
  have hol := nd_len h
  have es : seqOf (CV o) = some (o.map .int) := rfl
  apply wM_eq
  rw [wM_call (d := d13) rfl rfl]
  show wS (evSs (callN ds (n + 2)) (.cons (.asgO 2 (.lst .nil)) (.cons (.for (.name 3) (.val (.var 1)) b13_l0 [3]) (.cons (.frz 2) (.cons (.ret (.var 2)) .nil)))) [.val (LV b p ws prs), .val (CV o), .no, .no] sto) _
  rw [wS_cons, evS, wS_lift, evE, evEs, bnd_ret, wM_ret]
  simp only []
  rw [if_pos (by show 2 < 4; decide), wS_ok, nx_nx]
  show wS (evSs (callN ds (n + 2)) _ [.val (LV b p ws prs), .val (CV o), .own (.lst ((SL (stO (may b p ws prs) o 0)).map CV)), .no] sto) _
  have ei : ∀ s2, evI (callN ds (n + 2)) (.val (.var 1)) [.val (LV b p ws prs), .val (CV o), s2, .no] sto = .ok (o.map .int) sto := fun s2 => by
    generalize CV o = O at es ⊢
    simp [evI, evE, look, rdV, opt_some, bnd_ret, es, M.ret]
  rw [wS_for (ei _)]
  refine wFor (fun i env st' => env = [.val (LV b p ws prs), .val (CV o), .own (.lst ((SL (stO (may b p ws prs) o i)).map CV)), .no] ∧ st' = sto) ?_ ?_ _ _ ⟨rfl, rfl⟩
  · rintro i y env st' hy ⟨rfl, rfl⟩
    have hi : i < o.length := by
      have := (List.getElem?_eq_some_iff.mp hy).1
      rwa [List.length_map] at this
    rw [List.getElem?_map, List.getElem?_eq_getElem hi] at hy
    simp only [Option.map_some, Option.some.injEq] at hy
    subst hy
    have hfr := stO_fresh (my := may b p ws prs) h hi
    have hbt := stO_ok (my := may b p ws prs) h (i := i) (by omega)
    have hxb := h.2 _ (List.getElem_mem hi)
    have hSl := SL_len (may b p ws prs) o (i := i) (by omega)
    rw [stO_succ _ _ hi, SL_st]
    generalize o[i] = x at hfr hxb ⊢
    generalize stO (may b p ws prs) o i = bt at hfr hbt hSl ⊢
    have hc := bc_ev n k hbt hxb hfr (CV o) st'
    show wS (evSs (callN ds (n + 2)) (.cons (.ife bcT (.cons (.setO 2 (.neg (.int 1)) stE) .nil) (.cons (.app 2 (.tup (.cons (.var 3) .nil))) .nil)) .nil) [.val (LV b p ws prs), .val (CV o), .own (.lst ((SL bt).map CV)), .val (.int x)] st') _
    rw [wS_cons, evS, wS_lift, wM_of hc]
    cases hq : (!bt.2.isEmpty && may b p ws prs (bt.2 ++ [x])) with
    | true =>
      have he : bt.2 ≠ [] := fun e => by rw [e] at hq; simp at hq
      rw [if_pos rfl, SL_ne he]
      show wS (evSs (callN ds (n + 2)) (.cons (.setO 2 (.neg (.int 1)) stE) .nil) [.val (LV b p ws prs), .val (CV o), .own (.lst ((bt.1.map srt ++ [srt bt.2]).map CV)), .val (.int x)] st') _
      have hl := nd_len hbt.2
      have hs := st_ev (callN ds (n + 2)) (LV b p ws prs) (CV o) (bt.1.map srt) (srt bt.2) x (by rw [(srt_perm bt.2).length_eq]; omega) st'
      rw [srt_step] at hs
      have hset := set_last (bt.1.map srt) (srt bt.2) (srt (bt.2 ++ [x]))
      rw [wS_cons]
      have ea : evS (callN ds (n + 2)) (.setO 2 (.neg (.int 1)) stE) [.val (LV b p ws prs), .val (CV o), .own (.lst ((bt.1.map srt ++ [srt bt.2]).map CV)), .val (.int x)] st' = .ok (.nx [.val (LV b p ws prs), .val (CV o), .own (.lst ((bt.1.map srt ++ [srt (bt.2 ++ [x])]).map CV)), .val (.int x)]) st' := by
        generalize stE = S at hs ⊢
        generalize (bt.1.map srt ++ [srt bt.2]).map CV = L1 at hs hset ⊢
        generalize (bt.1.map srt ++ [srt (bt.2 ++ [x])]).map CV = L2 at hset ⊢
        generalize CV (srt (bt.2 ++ [x])) = R at hs hset
        simp [evS, look, lift, hs, evE, negP, opt_some, bnd_ret, M.ret, hset, put]
      rw [ea, wS_ok, nx_nx, wS_nil, nx_nx, wS_nil]
      exact ⟨rfl, rfl⟩
    | false =>
      rw [if_neg (by simp)]
      show wS (evSs (callN ds (n + 2)) (.cons (.app 2 (.tup (.cons (.var 3) .nil))) .nil) [.val (LV b p ws prs), .val (CV o), .own (.lst ((SL bt).map CV)), .val (.int x)] st') _
      rw [wS_cons]
      have ea : evS (callN ds (n + 2)) (.app 2 (.tup (.cons (.var 3) .nil))) [.val (LV b p ws prs), .val (CV o), .own (.lst ((SL bt).map CV)), .val (.int x)] st' = .ok (.nx [.val (LV b p ws prs), .val (CV o), .own (.lst ((SL bt ++ [[x]]).map CV)), .val (.int x)]) st' := by
        have hlT : ((SL bt).map CV).length < 1000000 := by rw [List.length_map]; omega
        rw [List.map_append]
        generalize (SL bt).map CV = L at hlT ⊢
        generalize LV b p ws prs = B
        generalize CV o = O
        simp [evS, look, evE, evEs, rdV, opt_some, bnd_ret, lift, M.ret, hlT, put, CV]
      rw [ea, wS_ok, nx_nx, wS_nil, nx_nx, wS_nil]
      exact ⟨rfl, rfl⟩
  · rintro env st' ⟨rfl, rfl⟩
    rw [List.length_map, nx_nx, wS_cons]
    have e : SL (stO (may b p ws prs) o o.length) = BL (may b p ws prs) o := by
      unfold SL BL
      rw [stO_all]
    rw [e]
    generalize LV b p ws prs = B
    generalize CV o = O
    generalize (BL (may b p ws prs) o).map CV = L
    simp [evS, look, put, wS_ok, nx_nx, wS_ret, evE, rdV, opt_some, wM_ret, finQ]
/-! orders that fit -/
theorem nubI_id : ∀ {l : List Int}, l.Nodup → nubI l = l
  | [], _ => rfl
  | x :: r, h => by
    have h' := List.nodup_cons.mp h
    unfold nubI
    rw [if_neg h'.1, nubI_id h'.2]
theorem lset_CV (o : List Int) (h : o.Nodup) (hl : o.length < 64) : lsetP (CV o) = some (.int (o.length : Nat)) := by
  unfold CV
  show (match intsOf (o.map .int) with | some ns => if ns.length < 64 then some (PV.int ((nubI ns).length : Nat)) else none | none => none) = _
  rw [intsOf_map]
  simp only []
  rw [if_pos hl, nubI_id h]
theorem ok_forder (n : Nat) {b p : Int} {ws : List Int} {prs : List (List Int)} (k : LOk b p ws prs) {o : List Int} (h : o.Perm (rI ws.length)) (st : Sto) : callN ds (n + 2) 18 [LV b p ws prs, CV o] st = .ok (.bl true) st := by
  have w7 := k.w7
  have hnd := nd_perm h.symm (asc_nd (rI_asc ws.length))
  have hlen : o.length = ws.length := by rw [h.length_eq, rI_len]
  have e2 := ix_L2 b p ws prs
  have hl := len_CV ws
  have hs := lset_CV o hnd.1 (by omega)
  rw [hlen] at hs
  obtain ⟨N, hN⟩ : ∃ N : Int, ((ws.length : Nat) : Int) = N := ⟨_, rfl⟩
  have c1 : callN ds (n + 1) 1 [CV o, .int N, .int N] st = .ok (.bl true) st := by
    unfold CV
    rw [ok_tupOf, List.length_map, decide_eq_true (by omega), decide_eq_true (by omega)]
    rfl
  have h1 := fun Q : PV → Sto → Prop => wM_of (Q := Q) c1
  have es : seqOf (CV o) = some (o.map .int) := rfl
  rw [hN] at hl hs
  apply wM_eq
  rw [wM_call (d := d18) rfl rfl]
  clear c1
  generalize LV b p ws prs = B at e2 ⊢
  generalize CV ws = W at e2 hl
  generalize CV o = O at h1 es hs ⊢
  simp [d18, enter, wS_cons, wS_nil, aft, finQ, wS_lift, wS_ok, wM_ret, wM_bnd, wM_nox, wM_some, opt_some, bnd_ret, evS, evE, evT, evBoT, evEs, evI, look, put, bindG_name, rdV, truthP, e2, hl, h1, es]
  rw [wM_of (compL_pure (fun _ => some (.bl true)) fun x hx => ?_)]
  · rw [all_tt]
    simp [wM_ret, wM_bnd, wM_some, wM_nox, wS_ok, wS_cons, wS_nil, wS_lift, aft, finQ, opt_some, bnd_ret, evS, evE, evEs, look, rdV, hs, cmp_eqI]
  · obtain ⟨i, hi, rfl⟩ := List.mem_map.mp hx
    obtain ⟨a1, a2⟩ := hnd.2 i hi
    have a3 : i ≤ N - 1 := by omega
    simp [bindG_name, put, wipeE, evTs, evE, evEs, look, rdV, opt_some, bnd_ret, M.bnd, bin_subI, ok_whole, M.ret, a1, a3]
theorem ok_belt (n : Nat) {b p : Int} {ws : List Int} {prs : List (List Int)} (k : LOk b p ws prs) {o : List Int} (h : o.Perm (rI ws.length)) (st : Sto) : callN ds (n + 6) 17 [LV b p ws prs, CV o] st = .ok (BG (BL (may b p ws prs) o)) st := by
  have hnd := nd_perm h.symm (asc_nd (rI_asc ws.length))
  have c1 := ok_nload n k st
  have c2 := ok_forder (n + 3) k h st
  have c3 := ok_beltin (n + 2) k hnd st
  have ht := tupL ((BL (may b p ws prs) o).map CV)
  have h1 := fun Q : PV → Sto → Prop => wM_of (Q := Q) c1
  have h2 := fun Q : PV → Sto → Prop => wM_of (Q := Q) c2
  have h3 := fun Q : PV → Sto → Prop => wM_of (Q := Q) c3
  apply wM_eq
  rw [wM_call (d := d17) rfl rfl]
  clear c1 c2 c3
  unfold BG
  generalize PV.tup ((BL (may b p ws prs) o).map CV) = T at ht ⊢
  generalize PV.lst ((BL (may b p ws prs) o).map CV) = L at ht h3
  generalize LV b p ws prs = B at h1 h2 h3 ⊢
  generalize CV o = O at h2 h3 ⊢
  simp [d17, enter, wS_cons, wS_nil, aft, finQ, wS_lift, wS_ok, wM_ret, wM_bnd, wM_some, opt_some, bnd_ret, evS, evE, evT, evEs, look, rdV, truthP, h1, h2, h3, ht]
end Lw

/-! FE: the law's belts; bags that are. -/
namespace Lw
open PySem PySem.Spec Pv
def lcT : T := .bo true (.cons (.cmp .ne (.var 3) (.tup .nil)) (.cons (.e (.call 27 (.cons (.var 0) (.cons (.bin .add (.var 3) (.tup (.cons (.var 4) .nil))) .nil)))) .nil))
def eLB (B O : PV) (st : List (List Int) × List Int) (s4 : Slot) : En := [.val B, .val O, .val (BG (st.1.map srt)), .val (CV st.2), s4]
theorem lc_ev (n : Nat) {b p : Int} {ws : List Int} {prs : List (List Int)} (k : LOk b p ws prs) {st : List (List Int) × List Int} (h : BtOk ws.length st) {x : Int} (hx : 0 ≤ x ∧ x < ws.length) (hn : x ∉ st.2) (O : PV) (sto : Sto) : evT (callN ds (n + 1)) lcT (eLB (LV b p ws prs) O st (.val (.int x))) sto = .ok (!st.2.isEmpty && may b p ws prs (st.2 ++ [x])) sto := by
  have w7 := k.w7
  have hl := nd_len h.2
  have h0 := ne_C0 st.2
  have h1 := addCV st.2 x (by omega)
  have hm := ok_lmay n k (lot := st.2 ++ [x]) (nd_app h.2 hx hn).2 sto
  unfold lcT eLB
  generalize may b p ws prs (st.2 ++ [x]) = r at hm ⊢
  generalize CV (st.2 ++ [x]) = Y at h1 hm
  generalize CV st.2 = Z at h0 h1 ⊢
  generalize LV b p ws prs = B at hm ⊢
  generalize st.2.isEmpty = e at h0 ⊢
  cases e <;> cases r <;> simp [evT, evBoT, evE, evEs, look, rdV, opt_some, bnd_ret, M.bnd, M.ret, h0, h1, hm, truthP]
def lsE : E := .tup (.cons (.bc .tuple (.cons (.bc .sorted (.cons (.var 3) .nil)) .nil)) .nil)
theorem ls_ev (ff : Nat → List PV → M PV) (B O F : PV) (z : List Int) (hz : z.length ≤ 1000) (s4 : Slot) (sto : Sto) : evE ff lsE [.val B, .val O, .val F, .val (CV z), s4] sto = .ok (BG [srt z]) sto := by
  have h3 := srt_CVt z hz
  have h4 := tupL ((srt z).map .int)
  rw [show PV.tup ((srt z).map .int) = CV (srt z) from rfl] at h4
  have e : BG [srt z] = .tup [CV (srt z)] := rfl
  rw [e]
  unfold lsE
  generalize CV z = Z at h3 ⊢
  generalize PV.lst ((srt z).map .int) = T at h3 h4
  generalize CV (srt z) = R at h4 ⊢
  simp [evE, evEs, look, rdV, opt_some, bnd_ret, h3, h4, M.ret]
def lnE : E := .bin .add (.var 2) (.ite (.cmp .ne (.var 3) (.tup .nil)) lsE (.tup .nil))
theorem ln_ev (ff : Nat → List PV → M PV) (B O : PV) (st : List (List Int) × List Int) (h1 : st.1.length ≤ 1000) (h2 : st.2.length ≤ 1000) (s4 : Slot) (sto : Sto) : evE ff lnE (eLB B O st s4) sto = .ok (BG ((if st.2.isEmpty = true then st.1 else st.1 ++ [st.2]).map srt)) sto := by
  have h0 := ne_C0 st.2
  have hs := ls_ev ff B O (BG (st.1.map srt)) st.2 h2 s4 sto
  have a1 := addBB (st.1.map srt) [srt st.2] (by simp; omega)
  have a0 := addBB (st.1.map srt) [] (by simp; omega)
  rw [List.append_nil] at a0
  have e0 : BG [] = .tup [] := rfl
  rw [e0] at a0
  have e1 : (st.1 ++ [st.2]).map srt = st.1.map srt ++ [srt st.2] := by rw [List.map_append]; rfl
  unfold lnE eLB
  cases he : st.2.isEmpty with
  | true =>
    rw [he] at h0
    rw [if_pos rfl]
    generalize CV st.2 = Z at h0 hs ⊢
    generalize BG (st.1.map srt) = F at a0 hs ⊢
    generalize lsE = S
    simp [evE, evT, evEs, look, rdV, opt_some, bnd_ret, h0, a0, M.ret, M.bnd, truthP]
  | false =>
    rw [he] at h0
    rw [if_neg (by simp), e1]
    generalize BG (st.1.map srt ++ [srt st.2]) = R at a1 ⊢
    generalize CV st.2 = Z at h0 hs ⊢
    generalize BG (st.1.map srt) = F at a1 hs ⊢
    generalize BG [srt st.2] = Y at a1 hs
    generalize lsE = S at hs ⊢
    simp [evE, evT, evEs, look, rdV, opt_some, bnd_ret, h0, hs, a1, M.ret, M.bnd, truthP]
theorem wS_par {Φ : Nat → List PV → M PV} {is : List Nat} {es : Es} {env : En} {st : Sto} {rest : Ss} {Q : Fl → Sto → Prop} : wS (evSs Φ (.cons (.par is es) rest) env st) Q = wM (evEs Φ es env) (fun xs st' => wS (match putAll env is xs with | some env' => .ok (.nx env') st' | none => .bad) (aft Φ rest Q)) st := by
  rw [wS_cons, evS, wS_lift]
  all_goals congr 1
theorem here_ne (my : List Int → Bool) (o : List Int) (hn : o ≠ []) : (stO my o o.length).2 ≠ [] := by
  have hl := List.length_pos_iff.mpr hn
  obtain ⟨j, hj⟩ : ∃ j, o.length = j + 1 := ⟨o.length - 1, by omega⟩
  rw [hj, stO_succ my o (by omega)]
  unfold stB
  split <;> simp
theorem st1_len (my : List Int → Bool) (o : List Int) {i : Nat} (hi : i ≤ o.length) : (stO my o i).1.length ≤ i := by
  have := SL_len my o hi
  unfold SL lotsB at this
  split at this
  · simpa using this
  · simp at this; omega
theorem ok_lbelt (n : Nat) {b p : Int} {ws : List Int} {prs : List (List Int)} (k : LOk b p ws prs) {o : List Int} (h : Nd ws.length o) (hne : o ≠ []) (sto : Sto) : callN ds (n + 2) 28 [LV b p ws prs, CV o] sto = .ok (BG (BL (may b p ws prs) o)) sto := by
  have w7 := k.w7
  have hol := nd_len h
  have es : seqOf (CV o) = some (o.map .int) := rfl
  apply wM_eq
  rw [wM_call (d := d28) rfl rfl]
  show wS (evSs (callN ds (n + 1)) (.cons (.asg (.tup (.cons (.name 2) (.cons (.name 3) .nil))) (.tup (.cons (.tup .nil) (.cons (.tup .nil) .nil)))) (.cons (.for (.name 4) (.val (.var 1)) b28_l0 [4]) (.cons (.ret (.bin .add (.var 2) lsE)) .nil))) [.val (LV b p ws prs), .val (CV o), .no, .no, .no] sto) _
  rw [wS_asgT, wM_of (show evE (callN ds (n + 1)) (.tup (.cons (.tup .nil) (.cons (.tup .nil) .nil))) [.val (LV b p ws prs), .val (CV o), .no, .no, .no] sto = .ok (.tup [.tup [], .tup []]) sto from rfl)]
  show wS (evSs (callN ds (n + 1)) _ (eLB (LV b p ws prs) (CV o) (stO (may b p ws prs) o 0) .no) sto) _
  have ei : ∀ st, evI (callN ds (n + 1)) (.val (.var 1)) (eLB (LV b p ws prs) (CV o) st .no) sto = .ok (o.map .int) sto := fun st => by
    unfold eLB
    generalize CV o = O at es ⊢
    generalize CV st.2 = Z
    generalize BG (st.1.map srt) = F
    simp [evI, evE, look, rdV, opt_some, bnd_ret, es, M.ret]
  rw [wS_for (ei _)]
  refine wFor (fun i env st' => env = eLB (LV b p ws prs) (CV o) (stO (may b p ws prs) o i) .no ∧ st' = sto) ?_ ?_ _ _ ⟨rfl, rfl⟩
  · rintro i y env st' hy ⟨rfl, rfl⟩
    have hi : i < o.length := by
      have := (List.getElem?_eq_some_iff.mp hy).1
      rwa [List.length_map] at this
    rw [List.getElem?_map, List.getElem?_eq_getElem hi] at hy
    simp only [Option.map_some, Option.some.injEq] at hy
    subst hy
    have hfr := stO_fresh (my := may b p ws prs) h hi
    have hbt := stO_ok (my := may b p ws prs) h (i := i) (by omega)
    have hxb := h.2 _ (List.getElem_mem hi)
    have hl1 := st1_len (may b p ws prs) o (i := i) (by omega)
    rw [stO_succ _ _ hi]
    generalize o[i] = x at hfr hxb ⊢
    generalize stO (may b p ws prs) o i = bt at hfr hbt hl1 ⊢
    have hc := lc_ev n k hbt hxb hfr (CV o) st'
    have hl := nd_len hbt.2
    show wS (evSs (callN ds (n + 1)) (.cons (.ife lcT (.cons (.asg (.name 3) (.bin .add (.var 3) (.tup (.cons (.var 4) .nil)))) .nil) (.cons (.par [2, 3] (.cons lnE (.cons (.tup (.cons (.var 4) .nil)) .nil))) .nil)) .nil) (eLB (LV b p ws prs) (CV o) bt (.val (.int x))) st') _
    rw [wS_cons, evS, wS_lift, wM_of hc]
    unfold stB
    cases hq : (!bt.2.isEmpty && may b p ws prs (bt.2 ++ [x])) with
    | true =>
      rw [if_pos rfl]
      show wS (evSs (callN ds (n + 1)) (.cons (.asg (.name 3) (.bin .add (.var 3) (.tup (.cons (.var 4) .nil)))) .nil) (eLB (LV b p ws prs) (CV o) bt (.val (.int x))) st') _
      have h1 := addCV bt.2 x (by omega)
      have he : evE (callN ds (n + 1)) (.bin .add (.var 3) (.tup (.cons (.var 4) .nil))) (eLB (LV b p ws prs) (CV o) bt (.val (.int x))) st' = .ok (CV (bt.2 ++ [x])) st' := by
        unfold eLB
        generalize CV (bt.2 ++ [x]) = Y at h1 ⊢
        generalize CV bt.2 = Z at h1 ⊢
        generalize BG (bt.1.map srt) = F
        simp [evE, evEs, look, rdV, opt_some, bnd_ret, h1, M.ret]
      rw [wS_asgN (by show 3 < 5; decide), wM_of he, wS_nil, nx_nx, wS_nil]
      exact ⟨rfl, rfl⟩
    | false =>
      rw [if_neg (by simp)]
      have he := ln_ev (callN ds (n + 1)) (LV b p ws prs) (CV o) bt (by omega) (by omega) (.val (.int x)) st'
      show wS (evSs (callN ds (n + 1)) (.cons (.par [2, 3] (.cons lnE (.cons (.tup (.cons (.var 4) .nil)) .nil))) .nil) (eLB (LV b p ws prs) (CV o) bt (.val (.int x))) st') _
      rw [wS_par, evEs_cons, wM_bnd, wM_of he, wM_bnd, evEs_cons, wM_bnd, wM_of (show evE (callN ds (n + 1)) (.tup (.cons (.var 4) .nil)) (eLB (LV b p ws prs) (CV o) bt (.val (.int x))) st' = .ok (CV [x]) st' from rfl), wM_bnd, evEs, wM_ret, wM_ret, wM_ret]
      show wS (.ok (.nx (eLB (LV b p ws prs) (CV o) (if bt.2.isEmpty = true then bt.1 else bt.1 ++ [bt.2], [x]) (.val (.int x)))) st') _
      rw [wS_ok, nx_nx, wS_nil, nx_nx, wS_nil]
      exact ⟨rfl, rfl⟩
  · rintro env st' ⟨rfl, rfl⟩
    rw [List.length_map, nx_nx, wS_ret]
    have hhn := here_ne (may b p ws prs) o hne
    have hbt := stO_ok (my := may b p ws prs) h (i := o.length) (Nat.le_refl _)
    have hl1 := st1_len (may b p ws prs) o (i := o.length) (Nat.le_refl _)
    have e : BL (may b p ws prs) o = (stO (may b p ws prs) o o.length).1.map srt ++ [srt (stO (may b p ws prs) o o.length).2] := by
      unfold BL
      rw [← stO_all]
      exact SL_ne hhn
    rw [e]
    generalize stO (may b p ws prs) o o.length = bt at hbt hl1 ⊢
    have hl := nd_len hbt.2
    have hs := ls_ev (callN ds (n + 1)) (LV b p ws prs) (CV o) (BG (bt.1.map srt)) bt.2 (by omega) .no st'
    have a1 := addBB (bt.1.map srt) [srt bt.2] (by simp; omega)
    rw [evE, wM_bnd, wM_of (show evE (callN ds (n + 1)) (.var 2) (eLB (LV b p ws prs) (CV o) bt .no) st' = .ok (BG (bt.1.map srt)) st' from rfl), wM_bnd]
    rw [show eLB (LV b p ws prs) (CV o) bt .no = [.val (LV b p ws prs), .val (CV o), .val (BG (bt.1.map srt)), .val (CV bt.2), .no] from rfl, wM_of hs, a1, wM_some]
    exact ⟨rfl, rfl⟩
/-! bags -/
structure PtOk (my : List Int → Bool) (m : Nat) (Mm : List (List Int)) : Prop where
  lot : ∀ s ∈ Mm, Asc m s ∧ s ≠ [] ∧ my s = true
  flat : Mm.flatten.Perm (rI m)
  up : Mm.Pairwise fun a b => ltL a b = true
def gFl : PV → List PV := fun p => (keyD p).map .int
theorem gFl_map : ∀ l : List (List Int), (l.map CV).flatMap gFl = l.flatten.map .int
  | [] => rfl
  | c :: l => by
    rw [List.map_cons, List.flatMap_cons, gFl_map l, List.flatten_cons, List.map_append]
    unfold gFl
    rw [keyD_CV]
def gId : PV → Option PV := fun p => some p
theorem gId_map (l : List PV) : l.filterMap gId = l := by
  have : gId = some := rfl
  rw [this, List.filterMap_some]
def f2E : E := .comp2 (.var 4) (.name 3) (.val (.var 1)) .nil (.name 4) (.val (.var 3)) .nil [3, 4] [4]
theorem f2_ev (ff : Nat → List PV → M PV) (B : PV) {Mm : List (List Int)} (hl : Mm.flatten.length ≤ 1000) (s2 : Slot) (st : Sto) : evE ff f2E [.val B, .val (BG Mm), s2, .no, .no] st = .ok (.lst (Mm.flatten.map .int)) st := by
  have es : seqOf (BG Mm) = some (Mm.map CV) := rfl
  generalize BG Mm = L at es ⊢
  unfold f2E
  have ei : evI ff (.val (.var 1)) [.val B, .val L, s2, .no, .no] st = .ok (Mm.map CV) st := by
    simp [evI, evE, look, rdV, opt_some, bnd_ret, es, M.ret]
  apply wM_eq
  rw [evE, wM_bnd, wM_of ei, wM_bnd, wM_nox]
  rw [wM_of (compLL_pure gFl fun x hx => ?_)]
  · rw [gFl_map, if_pos (by rw [List.length_map]; omega), wM_ret]
    exact ⟨rfl, rfl⟩
  · obtain ⟨c, hc, rfl⟩ := List.mem_map.mp hx
    have e2 : seqOf (CV c) = some (c.map .int) := rfl
    have e3 : gFl (CV c) = (c.map PV.int).filterMap gId := by
      rw [gId_map]
      unfold gFl
      rw [keyD_CV]
    rw [e3]
    generalize CV c = C at e2 ⊢
    have ei2 : evI ff (.val (.var 3)) [.val B, .val L, s2, .val C, .no] st = .ok (c.map .int) st := by
      simp [evI, evE, look, rdV, opt_some, bnd_ret, e2, M.ret]
    simp only [bindG_name, List.length_cons, List.length_nil, wipeE, put, if_pos (show 3 < 0 + 1 + 1 + 1 + 1 + 1 by decide)]
    simp only [evTs, bnd_ret]
    apply wM_eq
    rw [wM_bnd, wM_of ei2, wM_of (compL_pure gId fun y hy => ?_)]
    · exact ⟨rfl, rfl⟩
    · simp only [bindG_name, List.length_cons, List.length_nil, wipeE, put, if_pos (show 4 < 0 + 1 + 1 + 1 + 1 + 1 by decide)]
      simp [evTs, evE, look, rdV, opt_some, bnd_ret, M.bnd, M.ret, gId]
theorem ne_II (a : List Int) : cmpP .ne (.lst (a.map .int)) (.lst (a.map .int)) = some (.bl false) := by
  have hd : okD 30 (.lst (a.map .int)) = true := by
    unfold okD
    exact okDs_all fun x hx => by
      obtain ⟨i, _, rfl⟩ := List.mem_map.mp hx
      exact okD_int _ _
  have he : eqB (.lst (a.map .int)) (.lst (a.map .int)) = true := by
    rw [eqB]
    induction a with
    | nil => simp [eqBs]
    | cons x a ih => simp only [List.map_cons, eqBs, eqB]; simp [ih (by
        unfold okD
        exact okDs_all fun x hx => by
          obtain ⟨i, _, rfl⟩ := List.mem_map.mp hx
          exact okD_int _ _)]
  show (eqP _ _).map (fun c => PV.bl (!c)) = _
  unfold eqP
  rw [hd, Bool.and_self, if_pos rfl, he]
  rfl
theorem srtL_int (s : List Int) (hl : s.length ≤ 1000) : bfP .sorted [.lst (s.map .int)] = some (.lst ((srt s).map .int)) := srt_int s hl
theorem f_rule {ff : Nat → List PV → M PV} {a b : E} {env : En} {st : Sto} {x y z : PV} (h1 : evE ff a env st = .ok x st) (h2 : bfP .sorted [x] = some y) (h3 : evE ff b env st = .ok z st) (o : Cop) {r : Bool} (h4 : cmpP o y z = some (.bl r)) : evT ff (.cmp o (.bc .sorted (.cons a .nil)) b) env st = .ok r st := by
  simp [evT, evE, evEs, opt_some, bnd_ret, M.bnd, M.ret, h1, h2, h3, h4, truthP]
def g1E : E := .bc .all (.cons (.comp (.bo true (.cons (.call 3 (.cons (.var 2) (.cons (.var 3) .nil))) (.cons (.cmp .ne (.var 3) (.tup .nil)) .nil))) (.name 3) (.val (.var 1)) .nil [3]) .nil)
def g3E : E := .bc .all (.cons (.comp (.call 8 (.cons (.var 0) (.cons (.var 3) .nil))) (.name 3) (.val (.var 1)) .nil [3]) .nil)
theorem g1_ev (n : Nat) {my : List Int → Bool} {m : Nat} (N : Int) (hN : N = m) {Mm : List (List Int)} (k : PtOk my m Mm) (B : PV) (st : Sto) : evE (callN ds (n + 2)) g1E [.val B, .val (BG Mm), .val (.int N), .no, .no] st = .ok (.bl true) st := by
  have es : seqOf (BG Mm) = some (Mm.map CV) := rfl
  generalize BG Mm = L at es ⊢
  have ei : evI (callN ds (n + 2)) (.val (.var 1)) [.val B, .val L, .val (.int N), .no, .no] st = .ok (Mm.map CV) st := by
    simp [evI, evE, look, rdV, opt_some, bnd_ret, es, M.ret]
  unfold g1E
  apply wM_eq
  rw [evE, wM_bnd, evEs_cons, wM_bnd, evE, wM_bnd, wM_of ei, wM_bnd, wM_nox]
  rw [wM_of (compL_pure (fun _ => some (.bl true)) fun x hx => ?_)]
  · rw [wM_ret, wM_bnd, evEs, wM_ret, wM_ret, all_tt, wM_some]
    exact ⟨rfl, rfl⟩
  · obtain ⟨c, hc, rfl⟩ := List.mem_map.mp hx
    obtain ⟨h1, h2, _⟩ := k.lot c hc
    have f := ok_fsome n m N hN h1 st
    have h0 := ne_C0 c
    have e : c.isEmpty = false := by cases c with | nil => exact absurd rfl h2 | cons a q => rfl
    rw [e] at h0
    generalize CV c = C at f h0 ⊢
    simp only [bindG_name, List.length_cons, List.length_nil, wipeE, put, if_pos (show 3 < 0 + 1 + 1 + 1 + 1 + 1 by decide)]
    simp [evTs, evBo, evE, evEs, look, rdV, opt_some, bnd_ret, M.bnd, M.ret, f, h0]
theorem g3_ev (n : Nat) {b p : Int} {ws : List Int} {prs : List (List Int)} (k : LOk b p ws prs) {Mm : List (List Int)} (q : PtOk (may b p ws prs) ws.length Mm) (s2 : Slot) (st : Sto) : evE (callN ds (n + 2)) g3E [.val (LV b p ws prs), .val (BG Mm), s2, .no, .no] st = .ok (.bl true) st := by
  have es : seqOf (BG Mm) = some (Mm.map CV) := rfl
  have hm := fun c (hc : c ∈ Mm) => ok_may n k (q.lot c hc).1.2 st
  generalize BG Mm = L at es ⊢
  generalize LV b p ws prs = B at hm ⊢
  have ei : evI (callN ds (n + 2)) (.val (.var 1)) [.val B, .val L, s2, .no, .no] st = .ok (Mm.map CV) st := by
    simp [evI, evE, look, rdV, opt_some, bnd_ret, es, M.ret]
  unfold g3E
  apply wM_eq
  rw [evE, wM_bnd, evEs_cons, wM_bnd, evE, wM_bnd, wM_of ei, wM_bnd, wM_nox]
  rw [wM_of (compL_pure (fun _ => some (.bl true)) fun x hx => ?_)]
  · rw [wM_ret, wM_bnd, evEs, wM_ret, wM_ret, all_tt, wM_some]
    exact ⟨rfl, rfl⟩
  · obtain ⟨c, hc, rfl⟩ := List.mem_map.mp hx
    have f := hm c hc
    rw [(q.lot c hc).2.2] at f
    generalize CV c = C at f ⊢
    simp only [bindG_name, List.length_cons, List.length_nil, wipeE, put, if_pos (show 3 < 0 + 1 + 1 + 1 + 1 + 1 by decide)]
    simp [evTs, evE, evEs, look, rdV, opt_some, bnd_ret, M.bnd, M.ret, f]
def g2T : T := .cmp .ne (.bc .sorted (.cons f2E .nil)) (.rg1 false (.var 2))
theorem ok_fbags (n : Nat) {b p : Int} {ws : List Int} {prs : List (List Int)} (k : LOk b p ws prs) {Mm : List (List Int)} (q : PtOk (may b p ws prs) ws.length Mm) (st : Sto) : callN ds (n + 3) 9 [LV b p ws prs, BG Mm] st = .ok (.bl true) st := by
  have w1 := k.w1
  have w7 := k.w7
  have e2 := ix_L2 b p ws prs
  have hl := len_CV ws
  have hfl : Mm.flatten.length = ws.length := by rw [q.flat.length_eq, rI_len]
  have hM := len_flat fun s hs => (q.lot s hs).2.1
  have hM1 : 1 ≤ Mm.length := by
    cases Mm with
    | nil => simp at hfl; omega
    | cons a Mm => simp
  obtain ⟨N, hN⟩ : ∃ N : Int, ((ws.length : Nat) : Int) = N := ⟨_, rfl⟩
  have c1 : callN ds (n + 2) 1 [BG Mm, .int 1, .int N] st = .ok (.bl true) st := by
    unfold BG
    rw [ok_tupOf, List.length_map, decide_eq_true (by omega), decide_eq_true (by omega)]
    rfl
  have c2 : callN ds (n + 2) 2 [BG Mm] st = .ok (.bl true) st := ok_rising (n + 1) _ (pairs_up Mm q.up) st
  have g1 := g1_ev n N hN.symm q (LV b p ws prs) st
  have g3 := g3_ev n k q (.val (.int N)) st
  have g2 : evT (callN ds (n + 2)) g2T [.val (LV b p ws prs), .val (BG Mm), .val (.int N), .no, .no] st = .ok false st := by
    refine f_rule (f2_ev (callN ds (n + 2)) (LV b p ws prs) (by omega) (.val (.int N)) st) (srtL_int Mm.flatten (by omega)) (z := .lst ((rI ws.length).map .int)) ?_ .ne ?_
    · have hr := r1_rI N hN.symm (by omega)
      generalize (rI ws.length).map PV.int = Z at hr ⊢
      generalize LV b p ws prs = B
      generalize BG Mm = L
      simp [evE, look, rdV, opt_some, bnd_ret, hr, M.ret]
    · rw [srt_eq q.flat, srt_id (rI_asc ws.length)]
      exact ne_II _
  rw [hN] at hl
  apply wM_eq
  rw [wM_call (d := d9) rfl rfl]
  show wS (evSs (callN ds (n + 2)) (.cons (.asg (.name 2) (.bc .len (.cons (.ix (.var 0) (.int 2)) .nil))) (.cons (.ife (.bo false (.cons (.not (.e (.call 1 (.cons (.var 1) (.cons (.int 1) (.cons (.var 2) .nil)))))) (.cons (.not (.e g1E)) .nil))) RF .nil) (.cons (.ife (.bo false (.cons g2T (.cons (.not (.e (.call 2 (.cons (.var 1) .nil)))) .nil))) RF .nil) (.cons (.ret g3E) .nil)))) [.val (LV b p ws prs), .val (BG Mm), .no, .no, .no] st) _
  have h2 : evE (callN ds (n + 2)) (.bc .len (.cons (.ix (.var 0) (.int 2)) .nil)) [.val (LV b p ws prs), .val (BG Mm), .no, .no, .no] st = .ok (.int N) st := by
    generalize LV b p ws prs = B at e2 ⊢
    generalize CV ws = W at e2 hl
    generalize BG Mm = L
    simp [evE, evEs, look, rdV, opt_some, bnd_ret, e2, hl, M.ret]
  rw [wS_asgN (by show 2 < 5; decide), wM_of h2]
  show wS (evSs (callN ds (n + 2)) _ [.val (LV b p ws prs), .val (BG Mm), .val (.int N), .no, .no] st) _
  generalize LV b p ws prs = B at g1 g2 g3 ⊢
  generalize BG Mm = L at g1 g2 g3 c1 c2 ⊢
  have t1 : evT (callN ds (n + 2)) (.bo false (.cons (.not (.e (.call 1 (.cons (.var 1) (.cons (.int 1) (.cons (.var 2) .nil)))))) (.cons (.not (.e g1E)) .nil))) [.val B, .val L, .val (.int N), .no, .no] st = .ok false st := by
    generalize g1E = G at g1 ⊢
    simp [evT, evBoT, evE, evEs, look, rdV, opt_some, bnd_ret, M.bnd, M.ret, c1, g1, truthP]
  have t2 : evT (callN ds (n + 2)) (.bo false (.cons g2T (.cons (.not (.e (.call 2 (.cons (.var 1) .nil)))) .nil))) [.val B, .val L, .val (.int N), .no, .no] st = .ok false st := by
    generalize g2T = G at g2 ⊢
    simp [evT, evBoT, evE, evEs, look, rdV, opt_some, bnd_ret, M.bnd, M.ret, c2, g2, truthP]
  rw [wS_ifF t1, wS_ifF t2, wS_ret, wM_of g3]
  exact ⟨rfl, rfl⟩
end Lw

/-! FF: counts of belts. -/
namespace Lw
open PySem PySem.Spec Pv
theorem nodup_of_flat : ∀ {L : List (List Int)}, L.flatten.Nodup → (∀ l ∈ L, l ≠ []) → L.Nodup
  | [], _, _ => List.nodup_nil
  | a :: L, h, hn => by
    rw [List.flatten_cons] at h
    have h' := List.nodup_append.mp h
    refine List.nodup_cons.mpr ⟨fun hm => ?_, nodup_of_flat h'.2.1 fun l hl => hn l (List.mem_cons_of_mem _ hl)⟩
    cases a with
    | nil => exact hn [] List.mem_cons_self rfl
    | cons x r => exact h'.2.2 x List.mem_cons_self x (List.mem_flatten.mpr ⟨_, hm, List.mem_cons_self⟩) rfl
theorem map_srt_flat : ∀ L : List (List Int), (L.map srt).flatten.Perm L.flatten
  | [] => List.Perm.refl _
  | a :: L => by rw [List.map_cons, List.flatten_cons, List.flatten_cons]; exact (srt_perm a).append (map_srt_flat L)
theorem BL_pt {my : List Int → Bool} (hp : ∀ s t : List Int, s.Perm t → my s = my t) {m : Nat} (h1 : ∀ a : Int, 0 ≤ a ∧ a < m → my [a] = true) {o : List Int} (h : o.Perm (rI m)) : PtOk my m ((BL my o).mergeSort leL) := by
  have hnd := nd_perm h.symm (asc_nd (rI_asc m))
  have hg := raw_good (my := my) (o := o) fun x hx => h1 x (hnd.2 x hx)
  have hlot : ∀ s ∈ BL my o, Asc m s ∧ s ≠ [] ∧ my s = true := fun s hs => by
    obtain ⟨l, hl, rfl⟩ := List.mem_map.mp hs
    have hsb := sub_flat hl
    rw [raw_flat] at hsb
    exact ⟨srt_asc (nd_sub hsb hnd), srt_ne (hg l hl).1, by rw [hp _ _ (srt_perm l)]; exact (hg l hl).2⟩
  have hfl : (BL my o).flatten.Perm (rI m) := (map_srt_flat _).trans (by rw [raw_flat]; exact h)
  have pm := List.mergeSort_perm (BL my o) leL
  refine ⟨fun s hs => hlot s (pm.mem_iff.mp hs), pm.flatten.trans hfl, sort_strict (nodup_of_flat (hfl.nodup_iff.mpr (asc_nodup (rI_asc m))) fun l hl => (hlot l hl).2.1)⟩
theorem BL_ne {my : List Int → Bool} {m : Nat} (h1 : ∀ a : Int, 0 ≤ a ∧ a < m → my [a] = true) {o : List Int} (h : o.Perm (rI m)) : ∀ s ∈ BL my o, s ≠ [] := fun s hs => by
  have hnd := nd_perm h.symm (asc_nd (rI_asc m))
  have hg := raw_good (my := my) (o := o) fun x hx => h1 x (hnd.2 x hx)
  obtain ⟨l, hl, rfl⟩ := List.mem_map.mp hs
  exact srt_ne (hg l hl).1
theorem srt_BGt {L : List (List Int)} (hc : ∀ c ∈ L, c ≠ []) (hl : L.length ≤ 1000000) : bfP .sorted [BG L] = some (.lst ((L.mergeSort leL).map CV)) := keys_srt hc hl
theorem ok_areb (n : Nat) {b p : Int} {ws : List Int} {prs : List (List Int)} (k : LOk b p ws prs) {Mm : List (List Int)} (q : PtOk (may b p ws prs) ws.length Mm) (st : Sto) : callN ds (n + 6) 15 [LV b p ws prs, BG Mm] st = .ok (.bl true) st := by
  have h1 := fun Q : PV → Sto → Prop => wM_of (Q := Q) (ok_nload n k st)
  have h2 := fun Q : PV → Sto → Prop => wM_of (Q := Q) (ok_fbags (n + 2) k q st)
  apply wM_eq
  rw [wM_call (d := d15) rfl rfl]
  generalize LV b p ws prs = B at h1 h2 ⊢
  generalize BG Mm = L at h2 ⊢
  simp [d15, enter, wS_cons, wS_nil, aft, finQ, wS_lift, wS_ok, wM_ret, wM_bnd, wM_some, opt_some, bnd_ret, evS, evE, evEs, look, rdV, h1, h2]
/-! the least of pairs -/
def pK (f : List Int → Int) (s : List Int) : PV := .tup [.int (f s), CV s]
theorem ltB_pK (f : List Int → Int) (a b : List Int) : ltB (pK f a) (pK f b) = ltK f a b := by
  unfold pK
  simp only [ltB, ltBs, eqB, beq_iff_eq, ltB_CV, eqB_CV]
  unfold ltK
  by_cases h : f a = f b
  · rw [if_pos h, h]
    by_cases e : a = b
    · subst e
      simp [ltL_irr]
    · simp [e]
  · rw [if_neg h]
    simp [h]
theorem minF_pK (f : List Int → Int) : ∀ (l : List (List Int)) (a : List Int), minF (pK f a) (l.map (pK f)) = pK f (minK f a l)
  | [], a => rfl
  | b :: l, a => by
    have h := ltB_pK f b a
    unfold minF minK
    rw [List.map_cons, List.foldl_cons, List.foldl_cons, h]
    by_cases q : ltK f b a = true
    · rw [if_pos q, if_pos q]; exact minF_pK f l b
    · rw [if_neg q, if_neg q]; exact minF_pK f l a
theorem min_pK {f : List Int → Int} {l : List (List Int)} {m : List Int} (h : mnK f l = some m) : bfP .min [.lst (l.map (pK f))] = some (pK f m) := by
  cases l with
  | nil => cases h
  | cons a l =>
    simp only [mnK, Option.some.injEq] at h
    have hall : alAll ((a :: l).map (pK f)) = true := by
      unfold alAll
      rw [Bool.and_eq_true]
      refine ⟨okDs_all fun x hx => ?_, ?_⟩
      · obtain ⟨a, _, rfl⟩ := List.mem_map.mp hx
        unfold pK okD
        exact okDs_all fun y hy => by
          rcases List.mem_cons.mp hy with rfl | hy
          · exact okD_int _ _
          · rw [List.mem_singleton.mp hy]; exact okD_CV 27 a
      · rw [List.all_eq_true]
        intro x hx
        rw [List.all_eq_true]
        intro y hy
        obtain ⟨a, _, rfl⟩ := List.mem_map.mp hx
        obtain ⟨d, _, rfl⟩ := List.mem_map.mp hy
        simp [pK, alI, alIs, alI_CV]
    have hn : intsOf ((a :: l).map (pK f)) = none := rfl
    show (match intsOf ((a :: l).map (pK f)) with | some ns => minO ns | none => minT ((a :: l).map (pK f))) = _
    rw [hn]
    simp only []
    show (if alAll ((a :: l).map (pK f)) = true then some (minF (pK f a) (l.map (pK f))) else none) = _
    rw [if_pos hall, minF_pK, h]
theorem al_pK (f : List Int → Int) (l : List (List Int)) : alAll (l.map (pK f)) = true := by
  unfold alAll
  rw [Bool.and_eq_true]
  refine ⟨okDs_all fun x hx => ?_, ?_⟩
  · obtain ⟨a, _, rfl⟩ := List.mem_map.mp hx
    unfold pK okD
    exact okDs_all fun y hy => by
      rcases List.mem_cons.mp hy with rfl | hy
      · exact okD_int _ _
      · rw [List.mem_singleton.mp hy]; exact okD_CV 27 a
  · rw [List.all_eq_true]
    intro x hx
    rw [List.all_eq_true]
    intro y hy
    obtain ⟨a, _, rfl⟩ := List.mem_map.mp hx
    obtain ⟨d, _, rfl⟩ := List.mem_map.mp hy
    simp [pK, alI, alIs, alI_CV]
def maxK (f : List Int → Int) (x : List Int) (l : List (List Int)) : List Int := l.foldl (fun a y => if ltK f a y = true then y else a) x
theorem maxF_pK (f : List Int → Int) : ∀ (l : List (List Int)) (a : List Int), maxF (pK f a) (l.map (pK f)) = pK f (maxK f a l)
  | [], a => rfl
  | b :: l, a => by
    have h := ltB_pK f a b
    unfold maxF maxK
    rw [List.map_cons, List.foldl_cons, List.foldl_cons, h]
    by_cases q : ltK f a b = true
    · rw [if_pos q, if_pos q]; exact maxF_pK f l b
    · rw [if_neg q, if_neg q]; exact maxF_pK f l a
theorem maxK_ok (f : List Int → Int) : ∀ (l : List (List Int)) (x : List Int), maxK f x l ∈ x :: l ∧ ∀ y ∈ x :: l, f y ≤ f (maxK f x l)
  | [], x => ⟨by simp [maxK], fun y hy => by rw [List.mem_singleton.mp hy]; exact Int.le_refl _⟩
  | z :: l, x => by
    obtain ⟨h1, h2⟩ := maxK_ok f l (if ltK f x z = true then z else x)
    have e : maxK f x (z :: l) = maxK f (if ltK f x z = true then z else x) l := rfl
    rw [e]
    generalize maxK f (if ltK f x z = true then z else x) l = m at h1 h2 ⊢
    have hc := h2 _ List.mem_cons_self
    have hxz : f x ≤ f (if ltK f x z = true then z else x) ∧ f z ≤ f (if ltK f x z = true then z else x) := by
      by_cases hz : ltK f x z = true
      · rw [if_pos hz]
        unfold ltK at hz
        simp only [Bool.or_eq_true, Bool.and_eq_true, decide_eq_true_eq] at hz
        omega
      · rw [if_neg hz]
        unfold ltK at hz
        simp only [Bool.or_eq_true, Bool.and_eq_true, decide_eq_true_eq] at hz
        omega
    refine ⟨?_, fun y hy => ?_⟩
    · rcases List.mem_cons.mp h1 with h | h
      · rw [h]; split <;> simp
      · exact List.mem_cons_of_mem _ (List.mem_cons_of_mem _ h)
    · rcases List.mem_cons.mp hy with rfl | hy
      · omega
      · rcases List.mem_cons.mp hy with rfl | hy
        · omega
        · exact h2 y (List.mem_cons_of_mem _ hy)
/-- the greatest of the values -/
def mostV (f : List Int → Int) : List (List Int) → Int
  | [] => 0
  | x :: l => f (maxK f x l)
theorem mostV_ok {f : List Int → Int} {l : List (List Int)} (h : l ≠ []) : (∃ y ∈ l, f y = mostV f l) ∧ ∀ y ∈ l, f y ≤ mostV f l := by
  cases l with
  | nil => exact absurd rfl h
  | cons x l =>
    obtain ⟨h1, h2⟩ := maxK_ok f l x
    exact ⟨⟨_, h1, rfl⟩, h2⟩
theorem max_pK {f : List Int → Int} {l : List (List Int)} (h : l ≠ []) : ∃ c, bfP .max [.lst (l.map (pK f))] = some (pK f c) ∧ f c = mostV f l := by
  cases l with
  | nil => exact absurd rfl h
  | cons a l =>
    have hall := al_pK f (a :: l)
    have hn : intsOf ((a :: l).map (pK f)) = none := rfl
    refine ⟨maxK f a l, ?_, rfl⟩
    show (match intsOf ((a :: l).map (pK f)) with | some ns => maxO ns | none => maxT ((a :: l).map (pK f))) = _
    rw [hn]
    simp only []
    show (if alAll ((a :: l).map (pK f)) = true then some (maxF (pK f a) (l.map (pK f))) else none) = _
    rw [if_pos hall, maxF_pK]
theorem max_ints {f : List Int → Int} {l : List (List Int)} (h : l ≠ []) : bfP .max [.lst ((l.map f).map .int)] = some (.int (mostV f l)) := by
  obtain ⟨⟨y, hy, e⟩, h2⟩ := mostV_ok (f := f) h
  show (match intsOf ((l.map f).map .int) with | some ns => maxO ns | none => _) = _
  rw [intsOf_map]
  cases l with
  | nil => exact absurd rfl h
  | cons a l =>
    obtain ⟨k1, k2⟩ := maxI_ok (l.map f) (f a)
    show some (PV.int (maxI (f a) (l.map f))) = _
    have g1 := k2 (f y) (by rw [← List.map_cons]; exact List.mem_map.mpr ⟨y, hy, rfl⟩)
    rw [← List.map_cons] at k1
    obtain ⟨z, hz, ez⟩ := List.mem_map.mp k1
    have g2 := h2 z hz
    have : maxI (f a) (l.map f) = mostV f (a :: l) := by omega
    rw [this]
/-- those that come first of the greatest -/
theorem minK_head {f : List Int → Int} : ∀ (l : List (List Int)) (x : List Int), (x :: l).Pairwise (fun a b => ltL a b = true) → (∀ y ∈ l, f y = f x) → minK f x l = x
  | [], x, _, _ => rfl
  | z :: l, x, h, hf => by
    have h' := List.pairwise_cons.mp h
    have hz : ltK f z x = false := by
      have h1 := h'.1 z List.mem_cons_self
      have h2 := hf z List.mem_cons_self
      unfold ltK
      rw [h2, decide_eq_false (by omega), decide_eq_true rfl]
      cases hq : ltL z x with
      | false => rfl
      | true =>
        have := ltL_trans _ _ _ h1 hq
        rw [ltL_irr] at this
        cases this
    show minK f (if ltK f z x = true then z else x) l = x
    rw [hz, if_neg (by simp)]
    exact minK_head l x (List.pairwise_cons.mpr ⟨fun y hy => h'.1 y (List.mem_cons_of_mem _ hy), (List.pairwise_cons.mp h'.2).2⟩) fun y hy => hf y (List.mem_cons_of_mem _ hy)
theorem mnK_min {f : List Int → Int} {l : List (List Int)} {c : List Int} (h : mnK f l = some c) : ∀ y ∈ l, f c ≤ f y := fun y hy => by
  cases l with
  | nil => cases h
  | cons a l =>
    simp only [mnK, Option.some.injEq] at h
    subst h
    rcases (minK_ok f l a).2 y hy with e | e
    · rw [← e]; exact Int.le_refl _
    · unfold ltK at e
      simp only [Bool.or_eq_true, Bool.and_eq_true, decide_eq_true_eq] at e
      omega
/-- the first of the belts with the most lots -/
theorem top_ex {f : List Int → Int} {l : List (List Int)} (hn : l ≠ []) (hu : l.Pairwise fun a b => ltL a b = true) : ∃ c r, l.filter (fun o => decide (f o = mostV f l)) = c :: r ∧ mnK f (l.filter fun o => decide (f o = mostV f l)) = some c ∧ f c = mostV f l := by
  obtain ⟨⟨y, hy, e⟩, _⟩ := mostV_ok (f := f) hn
  have hm : y ∈ l.filter fun o => decide (f o = mostV f l) := List.mem_filter.mpr ⟨hy, by simpa using e⟩
  have hall : ∀ z ∈ l.filter (fun o => decide (f o = mostV f l)), f z = mostV f l := fun z hz => by simpa using (List.mem_filter.mp hz).2
  have hup := hu.sublist (List.filter_sublist (p := fun o => decide (f o = mostV f l)) (l := l))
  cases hS : l.filter fun o => decide (f o = mostV f l) with
  | nil => rw [hS] at hm; cases hm
  | cons c r =>
    rw [hS] at hall hup
    refine ⟨c, r, rfl, ?_, hall c List.mem_cons_self⟩
    show some (minK f c r) = some c
    rw [minK_head r c hup fun z hz => by rw [hall z (List.mem_cons_of_mem _ hz), hall c List.mem_cons_self]]
/-! the counts -/
def gPk (f : List Int → Int) : PV → Option PV := fun p => some (pK f (keyD p))
theorem gPk_map (f : List Int → Int) : ∀ l : List (List Int), (l.map CV).filterMap (gPk f) = l.map (pK f)
  | [] => rfl
  | c :: l => by
    rw [List.map_cons, List.filterMap_cons_some (b := pK f c) (by unfold gPk; rw [keyD_CV]), gPk_map f l]
    rfl
def gMo (k : Int) : PV → Option PV
  | .tup [.int i, c] => if i = k then some (.tup [.int i, c]) else none
  | _ => none
theorem gMo_map (f : List Int → Int) (k : Int) : ∀ l : List (List Int), (l.map (pK f)).filterMap (gMo k) = (l.filter fun o => decide (f o = k)).map (pK f)
  | [] => rfl
  | c :: l => by
    have e : gMo k (pK f c) = if f c = k then some (pK f c) else none := rfl
    by_cases h : f c = k
    · rw [List.map_cons, List.filterMap_cons_some (b := pK f c) (by rw [e, if_pos h]), gMo_map f k l, List.filter_cons_of_pos (by simpa using h)]
      rfl
    · rw [List.map_cons, List.filterMap_cons_none (by rw [e, if_neg h]), gMo_map f k l, List.filter_cons_of_neg (by simpa using h)]
def c1E : E := .comp (.tup (.cons (.bc .len (.cons (.call 13 (.cons (.var 0) (.cons (.var 3) .nil))) .nil)) (.cons (.var 3) .nil))) (.name 3) (.val (.call 14 (.cons (.bc .len (.cons (.ix (.var 0) (.int 2)) .nil)) .nil))) .nil [3]
theorem BL_len (my : List Int → Bool) (o : List Int) : (((BL my o).length : Nat) : Int) = cntB my o := by
  unfold BL cntB
  rw [List.length_map]
theorem c1_ev (n : Nat) {b p : Int} {ws : List Int} {prs : List (List Int)} (k : LOk b p ws prs) (m6 : ws.length ≤ 6) (st : Sto) : evE (callN ds (n + 3)) c1E [.val (LV b p ws prs), .no, .no, .no, .no] st = .ok (.lst ((ordsA ws.length ws.length).map (pK (cntB (may b p ws prs))))) st := by
  have e2 := ix_L2 b p ws prs
  have hl := len_CV ws
  have ho := ok_oof (n + 2) ws.length _ rfl m6 st
  have hb := fun o (h : o ∈ ordsA ws.length ws.length) => ok_beltin n k (ords_mem.mp h).1 st
  have hbl := BL_len (may b p ws prs)
  generalize LV b p ws prs = B at e2 hb ⊢
  generalize may b p ws prs = my at hb hbl ⊢
  have ei : evI (callN ds (n + 3)) (.val (.call 14 (.cons (.bc .len (.cons (.ix (.var 0) (.int 2)) .nil)) .nil))) [.val B, .no, .no, .no, .no] st = .ok ((ordsA ws.length ws.length).map CV) st := by
    generalize CV ws = W at e2 hl
    generalize ((ws.length : Nat) : Int) = z at hl ho
    simp [evI, evE, evEs, look, rdV, opt_some, bnd_ret, M.bnd, e2, hl, ho, seqOf, M.ret]
  unfold c1E
  apply wM_eq
  rw [evE, wM_bnd, wM_of ei, wM_bnd, wM_nox]
  rw [wM_of (compL_pure (gPk (cntB my)) fun x hx => ?_)]
  · rw [gPk_map]
    exact ⟨rfl, rfl⟩
  · obtain ⟨o, ho, rfl⟩ := List.mem_map.mp hx
    have h1 := hb o ho
    have h2 : bfP .len [.lst ((BL my o).map CV)] = some (.int (cntB my o)) := by
      rw [← hbl o]
      show some (PV.int (((BL my o).map CV).length : Nat)) = _
      rw [List.length_map]
    unfold gPk
    rw [keyD_CV]
    unfold pK
    generalize PV.lst ((BL my o).map CV) = L at h1 h2
    generalize cntB my o = c at h2 ⊢
    generalize CV o = O at h1 ⊢
    simp only [bindG_name, List.length_cons, List.length_nil, wipeE, put, if_pos (show 3 < 0 + 1 + 1 + 1 + 1 + 1 by decide)]
    simp [evTs, evE, evEs, look, rdV, opt_some, bnd_ret, M.bnd, M.ret, h1, h2]
def c2E : E := .comp (.var 4) (.name 4) (.val (.var 1)) (.cons (.cmp .eq (.ix (.var 4) (.int 0)) (.var 2)) .nil) [4]
theorem c2_ev (ff : Nat → List PV → M PV) (B : PV) (f : List Int → Int) (l : List (List Int)) (k : Int) (st : Sto) : evE ff c2E [.val B, .val (.lst (l.map (pK f))), .val (.int k), .no, .no] st = .ok (.lst ((l.filter fun o => decide (f o = k)).map (pK f))) st := by
  have es : seqOf (.lst (l.map (pK f))) = some (l.map (pK f)) := rfl
  generalize PV.lst (l.map (pK f)) = L at es ⊢
  have ei : evI ff (.val (.var 1)) [.val B, .val L, .val (.int k), .no, .no] st = .ok (l.map (pK f)) st := by
    simp [evI, evE, look, rdV, opt_some, bnd_ret, es, M.ret]
  unfold c2E
  apply wM_eq
  rw [evE, wM_bnd, wM_of ei, wM_bnd, wM_nox]
  rw [wM_of (compL_pure (gMo k) fun x hx => ?_)]
  · rw [gMo_map]
    exact ⟨rfl, rfl⟩
  · obtain ⟨o, ho, rfl⟩ := List.mem_map.mp hx
    have hx : M.ix (pK f o) (.int 0) = M.ret (.int (f o)) := rfl
    rw [show gMo k (pK f o) = if f o = k then some (pK f o) else none from rfl]
    generalize pK f o = P at hx ⊢
    generalize f o = i at hx ⊢
    simp only [bindG_name, List.length_cons, List.length_nil, wipeE, put, if_pos (show 4 < 0 + 1 + 1 + 1 + 1 + 1 by decide)]
    by_cases h : i = k <;> simp [evTs, evT, evE, look, rdV, opt_some, bnd_ret, M.bnd, M.ret, hx, cmp_eqI, truthP, h]
theorem ok_bcount (n : Nat) {b p : Int} {ws : List Int} {prs : List (List Int)} (k : LOk b p ws prs) (m6 : ws.length ≤ 6) {c1 c2 : List Int} (h1 : mnK (cntB (may b p ws prs)) (ordsA ws.length ws.length) = some c1) (h2 : mnK (cntB (may b p ws prs)) ((ordsA ws.length ws.length).filter fun o => decide (cntB (may b p ws prs) o = mostV (cntB (may b p ws prs)) (ordsA ws.length ws.length))) = some c2) (hn : ordsA ws.length ws.length ≠ []) (st : Sto) : callN ds (n + 6) 19 [LV b p ws prs] st = .ok (.tup [pK (cntB (may b p ws prs)) c1, pK (cntB (may b p ws prs)) c2]) st := by
  have h0 := ok_nload n k st
  have e1 := c1_ev (n + 2) k m6 st
  obtain ⟨c, hm, hc⟩ := max_pK (f := cntB (may b p ws prs)) hn
  generalize LV b p ws prs = B at h0 e1 ⊢
  generalize cntB (may b p ws prs) = f at *
  generalize ordsA ws.length ws.length = l at *
  have q2 := c2_ev (callN ds (n + 5)) B f l (mostV f l) st
  have hmin1 := min_pK h1
  have hmin2 := min_pK h2
  have hx : M.ix (pK f c) (.int 0) = M.ret (.int (mostV f l)) := by rw [← hc]; rfl
  apply wM_eq
  rw [wM_call (d := d19) rfl rfl]
  show wS (evSs (callN ds (n + 5)) (.cons (.expr (.call 6 (.cons (.var 0) .nil))) (.cons (.asg (.name 1) c1E) (.cons (.asg (.name 2) (.ix (.bc .max (.cons (.var 1) .nil)) (.int 0))) (.cons (.ret (.tup (.cons (.bc .min (.cons (.var 1) .nil)) (.cons (.bc .min (.cons c2E .nil)) .nil)))) .nil)))) [.val B, .no, .no, .no, .no] st) _
  rw [wS_cons, evS, wS_lift, evE, wM_bnd, wM_of (show evEs (callN ds (n + 5)) (.cons (.var 0) .nil) [.val B, .no, .no, .no, .no] st = .ok [B] st from rfl), wM_of h0, wS_ok, nx_nx]
  rw [wS_asgN (by show 1 < 5; decide), wM_of e1]
  show wS (evSs (callN ds (n + 5)) _ [.val B, .val (.lst (l.map (pK f))), .no, .no, .no] st) _
  generalize PV.lst ((l.filter fun o => decide (f o = mostV f l)).map (pK f)) = L2 at q2 hmin2
  generalize PV.lst (l.map (pK f)) = L at hm hmin1 q2 ⊢
  generalize pK f c = P at hm hx
  generalize pK f c1 = P1 at hmin1 ⊢
  generalize pK f c2 = P2 at hmin2 ⊢
  generalize mostV f l = mo at hx q2
  have e2 : evE (callN ds (n + 5)) (.ix (.bc .max (.cons (.var 1) .nil)) (.int 0)) [.val B, .val L, .no, .no, .no] st = .ok (.int mo) st := by
    simp [evE, evEs, look, rdV, opt_some, bnd_ret, hm, hx, M.ret]
  rw [wS_asgN (by show 2 < 5; decide), wM_of e2]
  show wS (evSs (callN ds (n + 5)) _ [.val B, .val L, .val (.int mo), .no, .no] st) _
  have e3 : evE (callN ds (n + 5)) (.tup (.cons (.bc .min (.cons (.var 1) .nil)) (.cons (.bc .min (.cons c2E .nil)) .nil))) [.val B, .val L, .val (.int mo), .no, .no] st = .ok (.tup [P1, P2]) st := by
    generalize c2E = C at q2 ⊢
    simp [evE, evEs, look, rdV, opt_some, bnd_ret, M.bnd, hmin1, q2, hmin2, M.ret]
  rw [wS_ret, wM_of e3]
  exact ⟨rfl, rfl⟩
end Lw

/-! FG: one random load's belts are right; things turned. -/
namespace Lw
open PySem PySem.Spec Pv
theorem wS_parO {Φ : Nat → List PV → M PV} {fs : List (Nat × Bool)} {es : Es} {env : En} {st : Sto} {rest : Ss} {Q : Fl → Sto → Prop} : wS (evSs Φ (.cons (.parO fs es) rest) env st) Q = wM (evEs Φ es env) (fun xs st' => wS (match putAllO env fs xs with | some env' => .ok (.nx env') st' | none => .bad) (aft Φ rest Q)) st := by
  rw [wS_cons, evS, wS_lift]
  all_goals congr 1
theorem wS_appPop {Φ : Nat → List PV → M PV} {f x : Nat} {e : E} {env : En} {st : Sto} {Q : Fl → Sto → Prop} {xs fs : List PV} (hx : look env x = .own (.lst xs)) (hf : look env f = .own (.lst fs)) : wS (evS Φ (.appPop f x e) env st) Q = wM (evE Φ e env) (fun v st' => wS (match v with
        | .int j => if 0 ≤ j ∧ j < 1000000 ∧ f ≠ x ∧ fs.length < 1000000 then (match xs[j.toNat]? with
          | some y => .ok (.nx (put (put env x (.own (.lst (xs.eraseIdx j.toNat)))) f (.own (.lst (fs ++ [y]))))) st'
          | none => .bad) else .bad
        | _ => .bad) Q) st := by
  simp only [evS, hx, hf, wS_lift]
  all_goals rfl
theorem eraseIdx_map' {α β : Type} (f : α → β) : ∀ (l : List α) (i : Nat), (l.map f).eraseIdx i = (l.eraseIdx i).map f
  | [], _ => by simp
  | x :: l, 0 => by simp
  | x :: l, i + 1 => by simp [eraseIdx_map' f l i]
theorem erase_perm {α : Type} : ∀ (l : List α) (i : Nat) (h : i < l.length), (l[i] :: l.eraseIdx i).Perm l
  | [], _, h => by simp at h
  | x :: l, 0, h => by simp
  | x :: l, i + 1, h => by
    have ih := erase_perm l i (by simpa using h)
    simp only [List.getElem_cons_succ, List.eraseIdx_cons_succ]
    exact (List.Perm.swap x _ _).trans (ih.cons x)
/-! turned -/
def eT (l f : List Int) (s4 : Slot) : En := [.val (.cel 0), .no, .own (.lst (l.map .int)), .own (.lst (f.map .int)), s4]
theorem ok_turned (n : Nat) (xs : List Int) (h1 : xs.length ≤ 1000) (st : Sto) (c : Cup st) : wM (callN ds (n + 2) 24 [.cel 0, .lst (xs.map .int)]) (fun v st' => ∃ ys : List Int, v = CV ys ∧ ys.Perm xs ∧ Cup st') st := by
  rw [wM_call (d := d24) rfl rfl]
  obtain ⟨its, hits, hlen⟩ := r1_ex (R := (xs.length : Int)) (by omega) (by omega)
  have e0 : evEs (callN ds (n + 1)) (.cons (.lof (.var 1)) (.cons (.lst .nil) .nil)) [.val (.cel 0), .val (.lst (xs.map .int)), .no, .no, .no] st = .ok [.lst (xs.map .int), .lst []] st := rfl
  have e1 : evI (callN ds (n + 1)) (.r1 (.bc .len (.cons (.own 2) .nil))) (eT xs [] .no) st = .ok its st := by
    have el : bfP .len [.lst (xs.map .int)] = some (.int xs.length) := by
      show some (PV.int ((xs.map PV.int).length : Nat)) = _
      rw [List.length_map]
    unfold eT
    generalize PV.lst (xs.map .int) = X at el ⊢
    generalize (xs.length : Int) = R at hits el
    simp [evI, evE, evEs, look, rdO, opt_some, bnd_ret, el, hits, M.ret]
  show wS (evSs (callN ds (n + 1)) (.cons (.parO [(2, true), (3, true)] (.cons (.lof (.var 1)) (.cons (.lst .nil) .nil))) (.cons (.kill [1]) (.cons (.for (.name 4) (.r1 (.bc .len (.cons (.own 2) .nil))) b24_l0 [4]) (.cons (.ret (.bc .tuple (.cons (.own 3) .nil))) .nil)))) [.val (.cel 0), .val (.lst (xs.map .int)), .no, .no, .no] st) _
  rw [wS_parO, wM_of e0]
  show wS (evSs (callN ds (n + 1)) (.cons (.kill [1]) _) [.val (.cel 0), .val (.lst (xs.map .int)), .own (.lst (xs.map .int)), .own (.lst []), .no] st) _
  rw [wS_kill]
  show wS (evSs (callN ds (n + 1)) _ (eT xs [] .no) st) _
  rw [wS_for e1]
  refine wFor (fun i env st' => ∃ l f : List Int, env = eT l f .no ∧ l.length + i = xs.length ∧ (l ++ f).Perm xs ∧ Cup st') ?_ ?_ _ _ ⟨xs, [], rfl, by omega, by simp, c⟩
  · rintro i x env st1 hx ⟨l, f, rfl, hl, hp, c1⟩
    have hi : i < its.length := (List.getElem?_eq_some_iff.mp hx).1
    have hf : f.length = i := by
      have := hp.length_eq
      rw [List.length_append] at this
      omega
    have e2 : evEs (callN ds (n + 1)) (.cons (.var 0) (.cons (.bc .len (.cons (.own 2) .nil)) .nil)) (eT l f (.val x)) st1 = .ok [.cel 0, .int l.length] st1 := by
      have el : bfP .len [.lst (l.map .int)] = some (.int l.length) := by
        show some (PV.int ((l.map PV.int).length : Nat)) = _
        rw [List.length_map]
      unfold eT
      generalize PV.lst (l.map .int) = X at el ⊢
      generalize (l.length : Int) = R at el
      simp [evE, evEs, look, rdO, rdV, opt_some, bnd_ret, el, M.ret]
    show wS (evSs (callN ds (n + 1)) (.cons (.appPop 3 2 (.call 21 (.cons (.var 0) (.cons (.bc .len (.cons (.own 2) .nil)) .nil)))) .nil) (eT l f (.val x)) st1) _
    rw [wS_cons, wS_appPop (xs := l.map .int) (fs := f.map .int) rfl rfl, evE, wM_bnd, wM_of e2]
    refine wM_mono (ok_roll n l.length (by omega) (by omega) st1 c1) ?_
    rintro v st2 ⟨j, rfl, j0, j1, c2⟩
    have hj : j.toNat < l.length := by omega
    have hg : (l.map PV.int)[j.toNat]? = some (.int l[j.toNat]) := by rw [List.getElem?_map, List.getElem?_eq_getElem hj]; rfl
    simp only [hg]
    rw [if_pos ⟨j0, by omega, by decide, by rw [List.length_map]; omega⟩, wS_ok, nx_nx, wS_nil]
    refine ⟨l.eraseIdx j.toNat, f ++ [l[j.toNat]], ?_, ?_, ?_, c2⟩
    · unfold eT
      simp only [kills, wipeE, put, eraseIdx_map', List.map_append, List.map_cons, List.map_nil]
    · rw [List.length_eraseIdx_of_lt hj]; omega
    · have p := erase_perm l j.toNat hj
      refine List.Perm.trans ?_ hp
      rw [← List.append_assoc]
      refine (List.perm_append_comm).trans ?_
      rw [List.singleton_append, ← List.cons_append]
      exact p.append_right f
  · rintro env st1 ⟨l, f, rfl, hl, hp, c1⟩
    have hl0 : l = [] := List.length_eq_zero_iff.mp (by omega)
    subst hl0
    rw [nx_nx, wS_ret]
    exact ⟨f, rfl, hp, c1⟩
structure RG (Φ : Nat → List PV → M PV) (B : PV) (my : List Int → Bool) (m : Nat) (f : Int) (c1 c2 : List Int) : Prop where
  belt : ∀ o, o ∈ ordsA m m → ∀ st, Φ 17 [B, CV o] st = .ok (BG (BL my o)) st
  lbelt : ∀ o, o ∈ ordsA m m → ∀ st, Φ 28 [B, CV o] st = .ok (BG (BL my o)) st
  areb : ∀ o, o ∈ ordsA m m → ∀ st, Φ 15 [B, BG ((BL my o).mergeSort leL)] st = .ok (.bl true) st
  count : ∀ st, Φ 19 [B] st = .ok (.tup [pK (cntB my) c1, pK (cntB my) c2]) st
  few : ∀ st, Φ 16 [B] st = .ok (.int f) st
  same : ∀ v, plB 3 v = true → ∀ st, Φ 23 [v, v] st = .ok (.bl true) st
  ne : ∀ o, o ∈ ordsA m m → ∀ s ∈ BL my o, s ≠ []
  pl : ∀ o, o ∈ ordsA m m → plB 3 (BG (BL my o)) = true
  len : ∀ o, o ∈ ordsA m m → (BL my o).length ≤ 1000
def OV (m : Nat) : PV := .lst ((ordsA m m).map CV)
def eR (B : PV) (N : Int) (m : Nat) (s4 s5 s6 s7 s8 s9 : Slot) : En := [.val (.cel 0), .val B, .val (.int N), .val (OV m), s4, s5, s6, s7, s8, s9, .no]
def beT : T := .bo false (.cons (.not (.e (.call 23 (.cons (.var 9) (.cons (.call 28 (.cons (.var 1) (.cons (.var 8) .nil))) .nil))))) (.cons (.cmp .isnot (.call 15 (.cons (.var 1) (.cons (.bc .tuple (.cons (.bc .sorted (.cons (.var 9) .nil)) .nil)) .nil))) (.bl true)) .nil))
theorem be_ev {Φ : Nat → List PV → M PV} {B : PV} {my : List Int → Bool} {m : Nat} {f : Int} {c1 c2 : List Int} (k : RG Φ B my m f c1 c2) {o : List Int} (ho : o ∈ ordsA m m) (N : Int) (s4 : Slot) (st : Sto) : evT Φ beT (eR B N m s4 .no .no .no (.val (CV o)) (.val (BG (BL my o)))) st = .ok false st := by
  have h1 := k.lbelt o ho st
  have h2 := k.same _ (k.pl o ho) st
  have h3 := k.areb o ho st
  have h4 := srt_BGt (k.ne o ho) (by have := k.len o ho; omega)
  have h5 := tupL (((BL my o).mergeSort leL).map CV)
  rw [show PV.tup (((BL my o).mergeSort leL).map CV) = BG ((BL my o).mergeSort leL) from rfl] at h5
  have h6 : cmpP .isnot (.bl true) (.bl true) = some (.bl false) := rfl
  unfold beT eR
  generalize BG ((BL my o).mergeSort leL) = G2 at h3 h5
  generalize PV.lst (((BL my o).mergeSort leL).map CV) = G3 at h4 h5
  generalize BG (BL my o) = G1 at h1 h2 h4 ⊢
  generalize CV o = O at h1 ⊢
  generalize OV m = V
  simp [evT, evBoT, evE, evEs, look, rdV, opt_some, bnd_ret, M.bnd, M.ret, h1, h2, h3, h4, h5, h6, truthP]
theorem lp_ev (n : Nat) {B : PV} {my : List Int → Bool} {m : Nat} {f : Int} {c1 c2 : List Int} (k : RG (callN ds (n + 2)) B my m f c1 c2) (m6 : m ≤ 6) (N : Int) (s4 : Slot) (st : Sto) (cu : Cup st) (Q : Fl → Sto → Prop) (hQ : ∀ s8 s9 st', Cup st' → Q (.nx (eR B N m s4 .no .no .no s8 s9)) st') : wS (evSs (callN ds (n + 2)) b29_l0 (eR B N m s4 .no .no .no .no .no) st) Q := by
  show wS (evSs (callN ds (n + 2)) (.cons (.asg (.name 8) (.call 22 (.cons (.var 0) (.cons (.var 3) .nil)))) (.cons (.asg (.name 9) (.call 17 (.cons (.var 1) (.cons (.var 8) .nil)))) (.cons (.ife beT RF .nil) .nil))) _ st) Q
  rw [wS_asgN (by show 8 < 11; decide), evE, wM_bnd, wM_of (show evEs (callN ds (n + 2)) (.cons (.var 0) (.cons (.var 3) .nil)) (eR B N m s4 .no .no .no .no .no) st = .ok [.cel 0, OV m] st from rfl)]
  have hsl := ords_b m6 (t := m) (by omega)
  have hs1 := (ords_small ⟨m, by omega⟩).2.2
  refine wM_mono (ok_some n ((ordsA m m).map CV) (by rw [List.length_map]; exact hs1) (by rw [List.length_map]; exact hsl) st cu) ?_
  rintro v st1 ⟨hv, cu1⟩
  obtain ⟨o, ho, rfl⟩ := List.mem_map.mp hv
  have h := be_ev k ho N s4 st1
  show wS (evSs (callN ds (n + 2)) _ (eR B N m s4 .no .no .no (.val (CV o)) .no) st1) Q
  rw [wS_asgN (by show 9 < 11; decide), evE, wM_bnd, wM_of (show evEs (callN ds (n + 2)) (.cons (.var 1) (.cons (.var 8) .nil)) (eR B N m s4 .no .no .no (.val (CV o)) .no) st1 = .ok [B, CV o] st1 from rfl), wM_of (k.belt o ho st1)]
  show wS (evSs (callN ds (n + 2)) _ (eR B N m s4 .no .no .no (.val (CV o)) (.val (BG (BL my o)))) st1) Q
  rw [wS_ifF h, wS_nil]
  exact hQ _ _ _ cu1
def w5E : E := .comp (.tup (.cons (.bc .len (.cons (.call 28 (.cons (.var 1) (.cons (.var 8) .nil))) .nil)) (.cons (.var 8) .nil))) (.name 8) (.val (.var 3)) .nil [8]
theorem w5_ev {Φ : Nat → List PV → M PV} {B : PV} {my : List Int → Bool} {m : Nat} {f : Int} {c1 c2 : List Int} (k : RG Φ B my m f c1 c2) (N : Int) (st : Sto) : evE Φ w5E (eR B N m .no .no .no .no .no .no) st = .ok (.lst ((ordsA m m).map (pK (cntB my)))) st := by
  have es : seqOf (OV m) = some ((ordsA m m).map CV) := rfl
  have hb := fun o ho => k.lbelt o ho st
  have hbl := BL_len my
  unfold w5E eR
  generalize OV m = V at es ⊢
  have ei : evI Φ (.val (.var 3)) [.val (.cel 0), .val B, .val (.int N), .val V, .no, .no, .no, .no, .no, .no, .no] st = .ok ((ordsA m m).map CV) st := by
    simp [evI, evE, look, rdV, opt_some, bnd_ret, es, M.ret]
  apply wM_eq
  rw [evE, wM_bnd, wM_of ei, wM_bnd, wM_nox]
  rw [wM_of (compL_pure (gPk (cntB my)) fun x hx => ?_)]
  · rw [gPk_map]
    exact ⟨rfl, rfl⟩
  · obtain ⟨o, ho, rfl⟩ := List.mem_map.mp hx
    have h1 := hb o ho
    have h2 : bfP .len [BG (BL my o)] = some (.int (cntB my o)) := by
      rw [← hbl o]
      exact len_BG _
    unfold gPk
    rw [keyD_CV]
    unfold pK
    generalize BG (BL my o) = L at h1 h2
    generalize cntB my o = c at h2 ⊢
    generalize CV o = O at h1 ⊢
    simp only [bindG_name, List.length_cons, List.length_nil, wipeE, put, if_pos (show 8 < 0 + 1 + 1 + 1 + 1 + 1 + 1 + 1 + 1 + 1 + 1 + 1 by decide)]
    simp [evTs, evE, evEs, look, rdV, opt_some, bnd_ret, M.bnd, M.ret, h1, h2]
def gFi : PV → Option PV
  | .tup [i, _] => some i
  | _ => none
theorem gFi_map (f : List Int → Int) : ∀ l : List (List Int), (l.map (pK f)).filterMap gFi = (l.map f).map .int
  | [] => rfl
  | c :: l => by
    rw [List.map_cons, List.filterMap_cons_some (f := gFi) (b := PV.int (f c)) rfl, gFi_map f l]
    rfl
def w6E : E := .bc .max (.cons (.comp (.var 10) (.tup (.cons (.name 10) (.cons (.name 8) .nil))) (.val (.var 5)) .nil [10, 8]) .nil)
theorem w6_ev (Φ : Nat → List PV → M PV) (B : PV) (N : Int) (m : Nat) (f : List Int → Int) {l : List (List Int)} (hl : l ≠ []) (st : Sto) : evE Φ w6E (eR B N m .no (.val (.lst (l.map (pK f)))) .no .no .no .no) st = .ok (.int (mostV f l)) st := by
  have es : seqOf (.lst (l.map (pK f))) = some (l.map (pK f)) := rfl
  have hm := max_ints (f := f) hl
  unfold w6E eR
  generalize OV m = V
  generalize PV.lst (l.map (pK f)) = L at es ⊢
  have ei : evI Φ (.val (.var 5)) [.val (.cel 0), .val B, .val (.int N), .val V, .no, .val L, .no, .no, .no, .no, .no] st = .ok (l.map (pK f)) st := by
    simp [evI, evE, look, rdV, opt_some, bnd_ret, es, M.ret]
  apply wM_eq
  rw [evE, wM_bnd, evEs_cons, wM_bnd, evE, wM_bnd, wM_of ei, wM_bnd, wM_nox]
  rw [wM_of (compL_pure gFi fun x hx => ?_)]
  · rw [gFi_map, wM_ret, wM_bnd, evEs, wM_ret, wM_ret, hm, wM_some]
    exact ⟨rfl, rfl⟩
  · obtain ⟨o, ho, rfl⟩ := List.mem_map.mp hx
    rw [show gFi (pK f o) = some (.int (f o)) from rfl, show pK f o = .tup [.int (f o), CV o] from rfl]
    generalize CV o = O
    generalize f o = i
    simp only [bindG_tup, bindGs_cons, bindG_name, bindGs_nil]
    simp [put, wipeE]
    simp [evTs, evE, look, rdV, opt_some, bnd_ret, M.bnd, M.ret]
def w8C : E := .comp (.tup (.cons (.var 10) (.cons (.var 8) .nil))) (.tup (.cons (.name 10) (.cons (.name 8) .nil))) (.val (.var 5)) (.cons (.cmp .eq (.var 10) (.var 6)) .nil) [10, 8]
def w8E : E := .ix w8C (.int 0)
theorem w8_ev (Φ : Nat → List PV → M PV) (B : PV) (N : Int) (m : Nat) (f : List Int → Int) {l : List (List Int)} (k : Int) {c : List Int} {r : List (List Int)} (hf : l.filter (fun o => decide (f o = k)) = c :: r) (s7 : Slot) (st : Sto) : evE Φ w8E (eR B N m .no (.val (.lst (l.map (pK f)))) (.val (.int k)) s7 .no .no) st = .ok (pK f c) st := by
  have es : seqOf (.lst (l.map (pK f))) = some (l.map (pK f)) := rfl
  have hx : M.ix (.lst ((c :: r).map (pK f))) (.int 0) = M.ret (pK f c) := rfl
  unfold w8E eR
  generalize OV m = V
  generalize PV.lst (l.map (pK f)) = L at es ⊢
  have ei : evI Φ (.val (.var 5)) [.val (.cel 0), .val B, .val (.int N), .val V, .no, .val L, .val (.int k), s7, .no, .no, .no] st = .ok (l.map (pK f)) st := by
    simp [evI, evE, look, rdV, opt_some, bnd_ret, es, M.ret]
  have hc : evE Φ w8C [.val (.cel 0), .val B, .val (.int N), .val V, .no, .val L, .val (.int k), s7, .no, .no, .no] st = .ok (.lst ((c :: r).map (pK f))) st := by
    unfold w8C
    apply wM_eq
    rw [evE, wM_bnd, wM_of ei, wM_bnd, wM_nox]
    rw [wM_of (compL_pure (gMo k) fun x hx => ?_)]
    · rw [gMo_map, hf]
      exact ⟨rfl, rfl⟩
    · obtain ⟨o, ho, rfl⟩ := List.mem_map.mp hx
      rw [show gMo k (pK f o) = if f o = k then some (.tup [.int (f o), CV o]) else none from rfl, show pK f o = .tup [.int (f o), CV o] from rfl]
      generalize CV o = O
      generalize f o = i
      simp only [bindG_tup, bindGs_cons, bindG_name, bindGs_nil]
      simp [put, wipeE]
      by_cases h : i = k <;> simp [evTs, evT, evE, evEs, look, rdV, opt_some, bnd_ret, M.bnd, M.ret, cmp_eqI, truthP, h]
  generalize w8C = C at hc ⊢
  apply wM_eq
  rw [evE, wM_bnd, wM_of hc, wM_bnd, evE, wM_ret, hx]
  exact ⟨rfl, rfl⟩
def smT : T := .not (.e (.call 23 (.cons (.var 7) (.cons (.tup (.cons (.bc .min (.cons (.var 5) .nil)) (.cons w8E .nil))) .nil))))
def fiE : E := .bo true (.cons (.cmp .eq (.ix (.ix (.var 7) (.int 0)) (.int 0)) (.call 16 (.cons (.var 1) .nil))) (.cons (.cmp2 .le .le (.ix (.ix (.var 7) (.int 0)) (.int 0)) (.ix (.ix (.var 7) (.int 1)) (.int 0)) (.var 2)) .nil))
theorem r4 : range1 (.int 4) = some [.int 0, .int 1, .int 2, .int 3] := rfl
theorem few_ex {b p : Int} {ws : List Int} {prs : List (List Int)} (k : LOk b p ws prs) : ∃ f, fewV (may b p ws prs) ws.length = some f := by
  cases e : fewV (may b p ws prs) ws.length with
  | some f => exact ⟨f, rfl⟩
  | none =>
    unfold fewV at e
    rw [mn_none, List.map_eq_nil_iff] at e
    have := allA_one (my := may b p ws prs) ws.length fun a ha => may_one k ha
    rw [e] at this
    cases this
theorem ords_ne {m : Nat} (m6 : m ≤ 6) : ordsA m m ≠ [] := fun e => by
  have := (ords_small ⟨m, by omega⟩).2.2
  simp only [e] at this
  simp at this
theorem ords_up {m : Nat} (m6 : m ≤ 6) : (ordsA m m).Pairwise fun a b => ltL a b = true := up_of _ (ords_small ⟨m, by omega⟩).2.1
/-- all that is known of the belts of a load -/
theorem cnt_facts {b p : Int} {ws : List Int} {prs : List (List Int)} (k : LOk b p ws prs) (m6 : ws.length ≤ 6) : ∃ f c1 c2 r, fewV (may b p ws prs) ws.length = some f ∧ mnK (cntB (may b p ws prs)) (ordsA ws.length ws.length) = some c1 ∧
    (ordsA ws.length ws.length).filter (fun o => decide (cntB (may b p ws prs) o = mostV (cntB (may b p ws prs)) (ordsA ws.length ws.length))) = c2 :: r ∧
    mnK (cntB (may b p ws prs)) ((ordsA ws.length ws.length).filter fun o => decide (cntB (may b p ws prs) o = mostV (cntB (may b p ws prs)) (ordsA ws.length ws.length))) = some c2 ∧
    cntB (may b p ws prs) c1 = f ∧ cntB (may b p ws prs) c2 = mostV (cntB (may b p ws prs)) (ordsA ws.length ws.length) ∧ f ≤ mostV (cntB (may b p ws prs)) (ordsA ws.length ws.length) ∧ mostV (cntB (may b p ws prs)) (ordsA ws.length ws.length) ≤ (ws.length : Nat) ∧ c1 ∈ ordsA ws.length ws.length ∧ c2 ∈ ordsA ws.length ws.length := by
  obtain ⟨f, hf⟩ := few_ex k
  obtain ⟨c1, h1⟩ := mnK_some (f := cntB (may b p ws prs)) (ords_ne m6)
  obtain ⟨c2, r, h2, h3, h4⟩ := top_ex (f := cntB (may b p ws prs)) (ords_ne m6) (ords_up m6)
  obtain ⟨⟨y, hy, ey⟩, hmx⟩ := mostV_ok (f := cntB (may b p ws prs)) (ords_ne m6)
  have m1 := mnK_mem h1
  have m2 : c2 ∈ ordsA ws.length ws.length := (List.mem_filter.mp (mnK_mem h3)).1
  have hone := fun a ha => may_one k (a := a) ha
  have g1 := belt_ge (my := may b p ws prs) (fun s t h => may_sub k h) (fun s t h => may_perm h) hone hf (ords_perm.mp m1)
  obtain ⟨o, ho, hle⟩ := belt_le (my := may b p ws prs) (fun s t h => may_sub k h) hf
  have g2 := mnK_min h1 o (ords_perm.mpr ho)
  have g3 := hmx c1 m1
  have hyn := ords_mem.mp hy
  have g4 := cnt_le (my := may b p ws prs) (o := y) fun x hx => hone x (hyn.1.2 x hx)
  rw [hyn.2] at g4
  exact ⟨f, c1, c2, r, hf, h1, h2, h3, by omega, h4, by omega, by omega, m1, m2⟩
theorem BG_pl {my : List Int → Bool} {m : Nat} (m7 : m ≤ 7) {o : List Int} (h : Nd m o) (h1 : ∀ a : Int, 0 ≤ a ∧ a < m → my [a] = true) (d : Nat) : plB (d + 2) (BG (BL my o)) = true ∧ (BL my o).length ≤ 1000 := by
  have hl : (BL my o).length ≤ 1000 := by
    have h2 := cnt_le (my := my) (o := o) fun x hx => h1 x (h.2 x hx)
    have h3 := BL_len my o
    have h4 := nd_len h
    omega
  refine ⟨?_, hl⟩
  unfold BG
  refine plB_tup _ _ (by rw [List.length_map]; exact hl) fun x hx => ?_
  obtain ⟨c, hc, rfl⟩ := List.mem_map.mp hx
  refine plB_CV c d ?_
  obtain ⟨l, hl', rfl⟩ := List.mem_map.mp hc
  have hsb := sub_flat hl'
  rw [raw_flat] at hsb
  have := nd_len (nd_sub hsb h)
  rw [(srt_perm l).length_eq]
  omega
theorem rg_ok (n : Nat) {b p : Int} {ws : List Int} {prs : List (List Int)} (k : LOk b p ws prs) {f : Int} {c1 c2 : List Int} (m6 : ws.length ≤ 6) (hf : fewV (may b p ws prs) ws.length = some f) (h1 : mnK (cntB (may b p ws prs)) (ordsA ws.length ws.length) = some c1) (h2 : mnK (cntB (may b p ws prs)) ((ordsA ws.length ws.length).filter fun o => decide (cntB (may b p ws prs) o = mostV (cntB (may b p ws prs)) (ordsA ws.length ws.length))) = some c2) : RG (callN ds (n + 7)) (LV b p ws prs) (may b p ws prs) ws.length f c1 c2 := by
  have w1 := k.w1
  have hone := fun a ha => may_one k (a := a) ha
  refine ⟨fun o ho st => ok_belt (n + 1) k (ords_perm.mp ho) st, fun o ho st => ok_lbelt (n + 5) k (ords_mem.mp ho).1 (fun e => by have := (ords_mem.mp ho).2; rw [e] at this; simp at this; omega) st, fun o ho st => ok_areb (n + 1) k (BL_pt (fun s t h => may_perm h) hone (ords_perm.mp ho)) st, fun st => ok_bcount (n + 1) k m6 h1 h2 (ords_ne m6) st, fun st => ok_fewest (n + 1) k hf st, fun v hv st => ok_same 3 (n + 3) v st hv, fun o ho => BL_ne hone (ords_perm.mp ho), fun o ho => (BG_pl (by omega) (ords_mem.mp ho).1 hone 1).1, fun o ho => (BG_pl (by omega) (ords_mem.mp ho).1 hone 1).2⟩
theorem pl_pK (f : List Int → Int) (c : List Int) (h : c.length ≤ 1000) (d : Nat) : plB (d + 2) (pK f c) = true := by
  refine plB_tup _ _ (by simp) fun x hx => ?_
  rcases List.mem_cons.mp hx with rfl | hx
  · rfl
  · rw [List.mem_singleton.mp hx]; exact plB_CV c d h
theorem ok_right (n : Nat) (st : Sto) (cu : Cup st) : wM (callN ds (n + 8) 29 [.cel 0]) (fun v st' => v = .bl true ∧ Cup st') st := by
  rw [wM_call (d := d29) rfl rfl]
  show wS (evSs (callN ds (n + 7)) (.cons (.asg (.name 1) (.call 26 (.cons (.var 0) (.cons (.int 5) .nil)))) (.cons (.asg (.name 2) (.bc .len (.cons (.ix (.var 1) (.int 2)) .nil))) (.cons (.asg (.name 3) (.call 25 (.cons (.var 2) .nil))) (.cons (.for (.name 4) (.r1 (.int 4)) b29_l0 [4, 8, 9]) (.cons (.asg (.name 5) w5E) (.cons (.asg (.name 6) w6E) (.cons (.asg (.name 7) (.call 19 (.cons (.var 1) .nil))) (.cons (.ife smT RF .nil) (.cons (.ret fiE) .nil))))))))) [.val (.cel 0), .no, .no, .no, .no, .no, .no, .no, .no, .no, .no] st) _
  rw [wS_asgN (by show 1 < 11; decide), evE, wM_bnd, wM_of (show evEs (callN ds (n + 7)) (.cons (.var 0) (.cons (.int 5) .nil)) [.val (.cel 0), .no, .no, .no, .no, .no, .no, .no, .no, .no, .no] st = .ok [.cel 0, .int 5] st from rfl)]
  refine wM_mono (ok_load (n + 4) st cu) ?_
  rintro v st1 ⟨b, p, ws, prs, rfl, k, m5, cu1⟩
  have m6 : ws.length ≤ 6 := by omega
  obtain ⟨f, c1, c2, r, hf, h1, h2, h3, h4, h5, h6, h7, h8, h9⟩ := cnt_facts k m6
  have kk := rg_ok n k m6 hf h1 h3
  have hl1 : c1.length ≤ 1000 := by rw [ords_rl h8]; omega
  have hl2 : c2.length ≤ 1000 := by rw [ords_rl h9]; omega
  have e2 := ix_L2 b p ws prs
  have hl := len_CV ws
  have hord := fun N hN st => ok_lord (n + 6) ws.length N hN m6 st
  have hne := ords_ne m6
  generalize LV b p ws prs = B at kk e2 ⊢
  generalize may b p ws prs = my at *
  obtain ⟨N, hN⟩ : ∃ N : Int, ((ws.length : Nat) : Int) = N := ⟨_, rfl⟩
  rw [hN] at hl h7
  have hord := fun st => hord N hN.symm st
  generalize ws.length = m at *
  generalize CV ws = W at e2 hl
  show wS (evSs (callN ds (n + 7)) _ [.val (.cel 0), .val B, .no, .no, .no, .no, .no, .no, .no, .no, .no] st1) _
  have g2 : evE (callN ds (n + 7)) (.bc .len (.cons (.ix (.var 1) (.int 2)) .nil)) [.val (.cel 0), .val B, .no, .no, .no, .no, .no, .no, .no, .no, .no] st1 = .ok (.int N) st1 := by
    simp [evE, evEs, look, rdV, opt_some, bnd_ret, e2, hl, M.ret]
  rw [wS_asgN (by show 2 < 11; decide), wM_of g2]
  show wS (evSs (callN ds (n + 7)) _ [.val (.cel 0), .val B, .val (.int N), .no, .no, .no, .no, .no, .no, .no, .no] st1) _
  rw [wS_asgN (by show 3 < 11; decide), evE, wM_bnd, wM_of (show evEs (callN ds (n + 7)) (.cons (.var 2) .nil) [.val (.cel 0), .val B, .val (.int N), .no, .no, .no, .no, .no, .no, .no, .no] st1 = .ok [.int N] st1 from rfl), wM_of (hord st1)]
  show wS (evSs (callN ds (n + 7)) _ (eR B N m .no .no .no .no .no .no) st1) _
  rw [wS_for (show evI (callN ds (n + 7)) (.r1 (.int 4)) (eR B N m .no .no .no .no .no .no) st1 = .ok [.int 0, .int 1, .int 2, .int 3] st1 by
    rw [evI, evE, bnd_ret, r4]
    rfl)]
  refine wFor (fun i env st => env = eR B N m .no .no .no .no .no .no ∧ Cup st) ?_ ?_ _ _ ⟨rfl, cu1⟩
  · rintro i x env st2 hx ⟨rfl, cu2⟩
    exact lp_ev (n + 5) kk m6 N (.val x) st2 cu2 _ fun s8 s9 st' c' => ⟨rfl, c'⟩
  · rintro env st2 ⟨rfl, cu2⟩
    rw [nx_nx, wS_asgN (by show 5 < 11; decide), wM_of (w5_ev kk N st2)]
    show wS (evSs (callN ds (n + 7)) _ (eR B N m .no (.val (.lst ((ordsA m m).map (pK (cntB my))))) .no .no .no .no) st2) _
    rw [wS_asgN (by show 6 < 11; decide), wM_of (w6_ev _ B N m (cntB my) hne st2)]
    show wS (evSs (callN ds (n + 7)) _ (eR B N m .no (.val (.lst ((ordsA m m).map (pK (cntB my))))) (.val (.int (mostV (cntB my) (ordsA m m)))) .no .no .no) st2) _
    rw [wS_asgN (by show 7 < 11; decide), evE, wM_bnd, wM_of (show evEs (callN ds (n + 7)) (.cons (.var 1) .nil) (eR B N m .no (.val (.lst ((ordsA m m).map (pK (cntB my))))) (.val (.int (mostV (cntB my) (ordsA m m)))) .no .no .no) st2 = .ok [B] st2 from rfl), wM_of (kk.count st2)]
    show wS (evSs (callN ds (n + 7)) _ (eR B N m .no (.val (.lst ((ordsA m m).map (pK (cntB my))))) (.val (.int (mostV (cntB my) (ordsA m m)))) (.val (.tup [pK (cntB my) c1, pK (cntB my) c2])) .no .no) st2) _
    have q8 := w8_ev (callN ds (n + 7)) B N m (cntB my) (mostV (cntB my) (ordsA m m)) h2 (.val (.tup [pK (cntB my) c1, pK (cntB my) c2])) st2
    have qs := kk.same (.tup [pK (cntB my) c1, pK (cntB my) c2]) (by
      refine plB_tup _ _ (by simp) fun x hx => ?_
      rcases List.mem_cons.mp hx with rfl | hx
      · exact pl_pK _ _ hl1 0
      · rw [List.mem_singleton.mp hx]; exact pl_pK _ _ hl2 0) st2
    have qm := min_pK h1
    have x1 : M.ix (pK (cntB my) c1) (.int 0) = M.ret (.int f) := by rw [← h4]; rfl
    have x2 : M.ix (pK (cntB my) c2) (.int 0) = M.ret (.int (mostV (cntB my) (ordsA m m))) := by rw [← h5]; rfl
    have qf := kk.few st2
    generalize mostV (cntB my) (ordsA m m) = mo at q8 x2 h6 h7 ⊢
    generalize PV.lst ((ordsA m m).map (pK (cntB my))) = L at q8 qm ⊢
    generalize pK (cntB my) c1 = P1 at qs qm x1 q8 ⊢
    generalize pK (cntB my) c2 = P2 at qs x2 q8 ⊢
    have t1 : evT (callN ds (n + 7)) smT (eR B N m .no (.val L) (.val (.int mo)) (.val (.tup [P1, P2])) .no .no) st2 = .ok false st2 := by
      unfold smT
      unfold eR at q8 ⊢
      generalize w8E = W8 at q8 ⊢
      generalize OV m = V at q8 ⊢
      simp [evT, evE, evEs, look, rdV, opt_some, bnd_ret, M.bnd, M.ret, q8, qm, qs, truthP]
    have t2 : evE (callN ds (n + 7)) fiE (eR B N m .no (.val L) (.val (.int mo)) (.val (.tup [P1, P2])) .no .no) st2 = .ok (.bl true) st2 := by
      have y1 : M.ix (.tup [P1, P2]) (.int 0) = M.ret P1 := rfl
      have y2 : M.ix (.tup [P1, P2]) (.int 1) = M.ret P2 := rfl
      unfold fiE eR
      generalize PV.tup [P1, P2] = PP at y1 y2 ⊢
      generalize OV m = V
      simp [evE, evBo, evEs, look, rdV, opt_some, bnd_ret, M.bnd, M.ret, y1, y2, x1, x2, qf, cmp_eqI, cmp_leI, h6, h7]
    rw [wS_ifF t1, wS_ret, wM_of t2]
    exact ⟨rfl, cu2⟩
end Lw

/-! FH: heavy and light by turns, flat loads, the law's end. -/
namespace Lw
open PySem PySem.Spec Pv
theorem fold_congr {my my' : List Int → Bool} {m : Nat} (h : ∀ s, Nd m s → my s = my' s) : ∀ (o : List Int) (st : List (List Int) × List Int), Nd m ((lotsB st).flatten ++ o) → o.foldl (stB my) st = o.foldl (stB my') st
  | [], _, _ => rfl
  | x :: o, st, hn => by
    rw [List.foldl_cons, List.foldl_cons]
    have e : stB my st x = stB my' st x := by
      unfold stB
      cases he : st.2.isEmpty with
      | true => simp
      | false =>
        have hm : st.2 ∈ lotsB st := by
          unfold lotsB
          rw [he, if_neg (by simp)]
          exact List.mem_append_right _ (List.mem_singleton.mpr rfl)
        have hs : (st.2 ++ [x]).Sublist ((lotsB st).flatten ++ x :: o) := by
          rw [show (lotsB st).flatten ++ x :: o = ((lotsB st).flatten ++ [x]) ++ o by simp]
          exact ((sub_flat hm).append (List.Sublist.refl [x])).trans (List.sublist_append_left _ _)
        rw [h _ (nd_sub hs hn)]
    rw [e]
    refine fold_congr h o _ ?_
    rw [lots_flat]
    simpa using hn
theorem cnt_congr {my my' : List Int → Bool} {m : Nat} (h : ∀ s, Nd m s → my s = my' s) {o : List Int} (ho : Nd m o) : cntB my o = cntB my' o := by
  unfold cntB rawB
  rw [fold_congr h o ([], []) ho]
def mayG (h : Nat) (s : List Int) : Bool := decide (cntH h s = 0) || decide (s.length ≤ 1)
def mixL (p i : Nat) : List Int := (List.range i).flatMap fun (j : Nat) => [(j : Int), ((p + j : Nat) : Int)]
theorem gp_all : ∀ p : Fin 4, 1 ≤ p.val → fewV (mayG p.val) (p.val + p.val) = some ((p.val + 1 : Nat) : Int) ∧ cntB (mayG p.val) (mixL p.val p.val) = ((2 * p.val : Nat) : Int) ∧ cntB (mayG p.val) (rI (p.val + p.val)) = ((p.val + 1 : Nat) : Int) ∧ mixL p.val p.val ∈ ordsA (p.val + p.val) (p.val + p.val) := by decide +kernel
theorem may_gp {p : Nat} {b : Int} (p3 : p ≤ 3) (b1 : 10 ≤ b) (b2 : b ≤ 59) (s : List Int) (hs : Nd (p + p) s) : may b 7 (hws p p b) [] s = mayG p s := by
  have e1 := sum_hv (h := p) (l := p) (w := b) s hs.2
  have e2 := cnt_light (h := p) (l := p) s hs.1 hs.2
  have e3 := nd_len hs
  have e4 : cntH p s ≤ s.length := List.length_filter_le _ _
  unfold may mayG
  rw [e1, List.any_nil, Bool.not_false, Bool.and_true, decide_eq_true (show (s.length : Int) ≤ 7 by omega), Bool.and_true]
  generalize hc : cntH p s = c at *
  rw [Bool.eq_iff_iff, decide_eq_true_eq, Bool.or_eq_true, decide_eq_true_eq, decide_eq_true_eq]
  constructor
  · intro hle
    refine Classical.byContradiction fun hn => ?_
    have h1 : 1 ≤ c := by omega
    have h2 : 2 ≤ s.length := by omega
    by_cases h3 : c = 1
    · subst h3
      simp at hle
      omega
    · have : b * 2 ≤ b * (c : Int) := Int.mul_le_mul_of_nonneg_left (by omega) (by omega)
      omega
  · intro h
    rcases h with h | h
    · subst h
      simp
      omega
    · have : c = 0 ∨ c = 1 := by omega
      rcases this with z | z
      · subst z; simp; omega
      · subst z; simp; omega
theorem gp_ok {p : Nat} {b : Int} (p1 : 1 ≤ p) (p3 : p ≤ 3) (b1 : 10 ≤ b) (b2 : b ≤ 59) : LOk b 7 (hws p p b) [] := by
  refine ⟨by omega, by omega, by omega, by omega, by unfold hws; simp; omega, by unfold hws; simp; omega, fun x hx => ?_, by simp, fun q hq => by simp at hq, List.Pairwise.nil⟩
  unfold hws at hx
  rcases List.mem_append.mp hx with h' | h'
  · rw [(List.mem_replicate.mp h').2]; omega
  · rw [(List.mem_replicate.mp h').2]; omega
/-! flat loads -/
theorem fold_one {my : List Int → Bool} : ∀ (o : List Int) (st : List (List Int) × List Int), st.1 = [] → (∀ s : List Int, s.Sublist (st.2 ++ o) → my s = true) → (o.foldl (stB my) st) = ([], st.2 ++ o)
  | [], st, h1, _ => by rw [List.foldl_nil, List.append_nil, ← h1]
  | x :: o, st, h1, h => by
    rw [List.foldl_cons]
    have e : stB my st x = ([], st.2 ++ [x]) := by
      unfold stB
      cases he : st.2.isEmpty with
      | true =>
        have : st.2 = [] := List.isEmpty_iff.mp he
        rw [this, h1]
        simp
      | false =>
        have hm := h (st.2 ++ [x]) ((List.Sublist.refl st.2).append ((List.nil_sublist o).cons₂ x))
        rw [hm, h1]
        simp
    rw [e, fold_one o _ rfl (fun s hs => h s (by simpa using hs))]
    simp
theorem BL_flat {my : List Int → Bool} {m : Nat} (m1 : 1 ≤ m) {o : List Int} (ho : o.Perm (rI m)) (h : ∀ s, Nd m s → my s = true) : BL my o = [rI m] := by
  have hnd := nd_perm ho.symm (asc_nd (rI_asc m))
  have hne : o ≠ [] := fun e => by have := ho.length_eq; rw [e, rI_len] at this; simp at this; omega
  unfold BL rawB
  rw [fold_one o ([], []) rfl fun s hs => h s (nd_sub (by simpa using hs) hnd)]
  unfold lotsB
  rw [List.nil_append]
  cases o with
  | nil => exact absurd rfl hne
  | cons a r =>
    show [srt (a :: r)] = _
    rw [srt_eq ho, srt_id (rI_asc m)]
theorem fl_ok {m : Nat} {W : Int} (m1 : 1 ≤ m) (m7 : m ≤ 7) (w1 : 1 ≤ W) (w2 : W ≤ 28) : LOk 200 7 (List.replicate m W) [] := by
  refine ⟨by omega, by omega, by omega, by omega, by simp; omega, by simp; omega, fun x hx => ?_, by simp, fun q hq => by simp at hq, List.Pairwise.nil⟩
  rw [(List.mem_replicate.mp hx).2]; omega
theorem fl_may {m : Nat} {W : Int} (m7 : m ≤ 7) (w1 : 1 ≤ W) (w2 : W ≤ 28) (s : List Int) (hs : Nd m s) : may 200 7 (List.replicate m W) [] s = true := by
  have e : List.replicate m W = hws m 0 W := by unfold hws; simp
  have e1 := sum_hv (h := m) (l := 0) (w := W) s hs.2
  have e3 := nd_len hs
  have e4 : cntH m s ≤ s.length := List.length_filter_le _ _
  unfold may
  rw [e, e1, List.any_nil, Bool.not_false, Bool.and_true, decide_eq_true (show (s.length : Int) ≤ 7 by omega), Bool.and_true, decide_eq_true_eq]
  have : W * (cntH m s : Int) ≤ 28 * (cntH m s : Int) := Int.mul_le_mul_of_nonneg_right w2 (by omega)
  omega
/-! the law -/
def envL : En := [.no, .val (.cel 0), .no, .no, .no, .no, .no, .no, .no, .no, .no]
def loE : E := .tup (.cons (.var 4) (.cons (.int 7) (.cons (.bin .add (.bin .mul (.tup (.cons (.var 4) .nil)) (.var 3)) (.bin .mul (.tup (.cons (.int 1) .nil)) (.var 3))) (.cons (.tup .nil) .nil))))
theorem lo_ev (Φ : Nat → List PV → M PV) {p : Nat} (P b : Int) (hP : P = p) (p3 : p ≤ 3) (st : Sto) : evE Φ loE [.no, .val (.cel 0), .no, .val (.int P), .val (.int b), .no, .no, .no, .no, .no, .no] st = .ok (LV b 7 (hws p p b) []) st := by
  have m1 := mulT b P p hP (by omega)
  have m2 := mulT 1 P p hP (by omega)
  have ha := addCC (List.replicate p b) (List.replicate p 1) (by simp; omega)
  have he : PV.tup [.int b, .int 7, CV (List.replicate p b ++ List.replicate p 1), .tup []] = LV b 7 (hws p p b) [] := rfl
  rw [← he]
  unfold loE
  generalize CV (List.replicate p b ++ List.replicate p 1) = W at ha ⊢
  generalize CV (List.replicate p b) = W1 at m1 ha
  generalize CV (List.replicate p 1) = W2 at m2 ha
  simp [evE, evEs, look, rdV, opt_some, bnd_ret, M.bnd, M.ret, m1, m2, ha]
def eM (P : Int) (B : PV) (mx : List Int) (s7 s8 s9 s10 : Slot) : En := [.no, .val (.cel 0), .no, .val (.int P), .no, .val B, .val (CV mx), s7, s8, s9, s10]
def toE : E := .tup (.cons (.bc .len (.cons (.call 17 (.cons (.var 5) (.cons (.var 6) .nil))) .nil)) (.cons (.bc .len (.cons (.call 17 (.cons (.var 5) (.cons (.rg1 true (.bin .mul (.int 2) (.var 3))) .nil))) .nil)) (.cons (.ix (.ix (.call 19 (.cons (.var 5) .nil)) (.int 0)) (.int 0)) (.cons (.ix (.ix (.call 19 (.cons (.var 5) .nil)) (.int 1)) (.int 0)) .nil))))
def tsT : T := .not (.e (.call 23 (.cons (.var 8) (.cons (.tup (.cons (.bin .mul (.int 2) (.var 3)) (.cons (.bin .add (.var 3) (.int 1)) (.cons (.bin .add (.var 3) (.int 1)) (.cons (.bin .mul (.int 2) (.var 3)) .nil))))) .nil))))
theorem mix_succ (p i : Nat) : mixL p (i + 1) = mixL p i ++ [(i : Int), ((p + i : Nat) : Int)] := by
  unfold mixL
  rw [List.range_succ, List.flatMap_append]
  simp
theorem mix_len (p : Nat) : ∀ i : Nat, (mixL p i).length = 2 * i
  | 0 => rfl
  | i + 1 => by rw [mix_succ, List.length_append, mix_len p i]; simp; omega
theorem rg_it (N : Int) (m : Nat) (hN : N = m) (m7 : m ≤ 100) : ∃ its, range1 (.int N) = some its ∧ its.length = m ∧ ∀ (j : Nat) (x : PV), its[j]? = some x → ∃ J : Int, x = .int J ∧ J = j ∧ j < m := by
  refine ⟨_, by rw [hN]; exact r1_nat (by omega), by simp, fun j x hx => ?_⟩
  rw [List.getElem?_map] at hx
  by_cases hj : j < m
  · rw [List.getElem?_range hj] at hx
    exact ⟨_, (Option.some.inj hx).symm, rfl, hj⟩
  · rw [List.getElem?_eq_none (by simp; omega)] at hx
    cases hx
def flE : E := .tup (.cons (.int 200) (.cons (.int 7) (.cons (.bin .mul (.tup (.cons (.bin .add (.int 1) (.call 21 (.cons (.var 1) (.cons (.int 28) .nil)))) .nil)) (.var 9)) (.cons (.tup .nil) .nil))))
def tuA : Es := .cons (.var 1) (.cons (.rg1 false (.var 9)) .nil)
def lastE : E := .call 23 (.cons (.call 17 (.cons (.var 10) (.cons (.call 24 tuA) .nil))) (.cons (.tup (.cons (.rg1 true (.var 9)) .nil)) .nil))
theorem last_w {p : Int} (B5 T8 : PV) (mx : List Int) {m : Nat} {W : Int} (N : Int) (hN : N = m) (m1 : 1 ≤ m) (m7 : m ≤ 7) (w1 : 1 ≤ W) (w2 : W ≤ 28) (st : Sto) (cu : Cup st) : wM (evE (callN ds 15) lastE (eM p B5 mx .no (.val T8) (.val (.int N)) (.val (LV 200 7 (List.replicate m W) [])))) (fun v _ => v = .bl true) st := by
  have k := fl_ok m1 m7 w1 w2
  have hlen : (List.replicate m W).length = m := by simp
  have hr := r1_rI N hN (by omega)
  unfold lastE
  rw [evE, wM_bnd, evEs_cons, wM_bnd, evE, wM_bnd, evEs_cons, wM_bnd, wM_of (show evE (callN ds 15) (.var 10) (eM p B5 mx .no (.val T8) (.val (.int N)) (.val (LV 200 7 (List.replicate m W) []))) st = .ok (LV 200 7 (List.replicate m W) []) st from rfl), wM_bnd, evEs_cons, wM_bnd, evE, wM_bnd]
  have ea : evEs (callN ds 15) tuA (eM p B5 mx .no (.val T8) (.val (.int N)) (.val (LV 200 7 (List.replicate m W) []))) st = .ok [.cel 0, .lst ((rI m).map .int)] st := by
    unfold tuA eM
    generalize LV 200 7 (List.replicate m W) [] = B
    generalize (rI m).map PV.int = R at hr ⊢
    generalize CV mx = X
    simp [evEs, evE, look, rdV, opt_some, bnd_ret, hr, M.ret]
  rw [wM_of ea]
  refine wM_mono (ok_turned 13 (rI m) (by rw [rI_len]; omega) st cu) ?_
  rintro v st1 ⟨o, rfl, ho, cu1⟩
  have hb := ok_belt 9 k (o := o) (by rw [hlen]; exact ho) st1
  rw [BL_flat m1 ho fun s hs => fl_may m7 w1 w2 s hs] at hb
  rw [wM_bnd, evEs, wM_ret, wM_ret, wM_ret, wM_of hb, wM_bnd, evEs_cons, wM_bnd]
  have et : evE (callN ds 15) (.tup (.cons (.rg1 true (.var 9)) .nil)) (eM p B5 mx .no (.val T8) (.val (.int N)) (.val (LV 200 7 (List.replicate m W) []))) st1 = .ok (BG [rI m]) st1 := by
    have hg : (range1 (.int N)).map PV.tup = some (CV (rI m)) := by rw [hN]; exact rg_CV m (by omega)
    have e : BG [rI m] = .tup [CV (rI m)] := rfl
    rw [e]
    unfold eM
    generalize LV 200 7 (List.replicate m W) [] = B
    generalize CV (rI m) = R at hg ⊢
    generalize CV mx = X
    simp [evE, evEs, look, rdV, opt_some, bnd_ret, hg, M.ret]
  rw [wM_of et, wM_bnd, evEs, wM_ret, wM_ret, wM_ret]
  have hs : callN ds 15 23 [BG [rI m], BG [rI m]] st1 = .ok (.bl true) st1 := by
    refine ok_same 2 12 _ st1 ?_
    have := plB_CV (rI m) 0 (by rw [rI_len]; omega)
    simp [BG, plB, this]
  rw [wM_of hs]
theorem law_true (ns : List Int) (hl : ns.length ≤ 63) : ∃ st, callN ds 16 30 [.scr ns] [] = .ok (.bl true) st := by
  have key : wM (callN ds 16 30 [.scr ns]) (fun v st => v = .bl true) [] := by
    rw [wM_call (n := 15) (d := d30) rfl rfl]
    show wS (evSs (callN ds 15) (.cons (.asg (.name 1) (.call 20 (.cons (.var 0) .nil))) (.cons (.kill [0]) (.cons (.for (.name 2) (.r1 (.int 4)) b30_l0 [2]) (.cons (.par [3, 4] (.cons (.bin .add (.int 1) (.call 21 (.cons (.var 1) (.cons (.int 3) .nil)))) (.cons (.bin .add (.int 10) (.call 21 (.cons (.var 1) (.cons (.int 50) .nil)))) .nil))) (.cons (.asg (.name 5) loE) (.cons (.asg (.name 6) (.tup .nil)) (.cons (.kill [4]) (.cons (.for (.name 7) (.r1 (.var 3)) b30_l1 [7]) (.cons (.asg (.name 8) toE) (.cons (.ife tsT RF .nil) (.cons (.asg (.name 9) (.bin .add (.int 1) (.call 21 (.cons (.var 1) (.cons (.int 7) .nil))))) (.cons (.asg (.name 10) flE) (.cons (.ret lastE) .nil))))))))))))) [.val (.scr ns), .no, .no, .no, .no, .no, .no, .no, .no, .no, .no] []) _
    rw [wS_asgN (by show 1 < 11; decide), evE, wM_bnd, wM_of (show evEs (callN ds 15) (.cons (.var 0) .nil) [.val (.scr ns), .no, .no, .no, .no, .no, .no, .no, .no, .no, .no] [] = .ok [.scr ns] [] from rfl)]
    refine wM_mono (ok_cup 14 ns hl) ?_
    rintro v st1 ⟨rfl, c1⟩
    rw [wS_kill]
    show wS (evSs (callN ds 15) _ envL st1) _
    rw [wS_for (show evI (callN ds 15) (.r1 (.int 4)) envL st1 = .ok [.int 0, .int 1, .int 2, .int 3] st1 by
      rw [evI, evE, bnd_ret, r4]
      rfl)]
    refine wFor (fun i env st => env = envL ∧ Cup st) ?_ ?_ _ _ ⟨rfl, c1⟩
    · rintro i x env st hx ⟨rfl, c⟩
      show wS (evSs (callN ds 15) (.cons (.ife (.not (.e (.call 29 (.cons (.var 1) .nil)))) RF .nil) .nil) [.no, .val (.cel 0), .val x, .no, .no, .no, .no, .no, .no, .no, .no] st) _
      rw [wS_cons, evS, wS_lift, evT, evT, wM_bnd, wM_bnd, evE, wM_bnd, wM_of (show evEs (callN ds 15) (.cons (.var 1) .nil) [.no, .val (.cel 0), .val x, .no, .no, .no, .no, .no, .no, .no, .no] st = .ok [.cel 0] st from rfl)]
      refine wM_mono (ok_right 7 st c) ?_
      rintro v st2 ⟨rfl, c2⟩
      exact ⟨rfl, c2⟩
    · rintro env st2 ⟨rfl, c2⟩
      rw [nx_nx, wS_par, evEs_cons, wM_bnd, evE, wM_bnd, evE, wM_ret, wM_bnd, evE, wM_bnd, wM_of (show evEs (callN ds 15) (.cons (.var 1) (.cons (.int 3) .nil)) envL st2 = .ok [.cel 0, .int 3] st2 from rfl)]
      refine wM_mono (ok_roll 14 3 (by omega) (by omega) st2 c2) ?_
      rintro v st3 ⟨x, rfl, x0, x1, c3⟩
      rw [bin_addI, wM_some, wM_bnd, evEs_cons, wM_bnd, evE, wM_bnd, evE, wM_ret, wM_bnd, evE, wM_bnd, wM_of (show evEs (callN ds 15) (.cons (.var 1) (.cons (.int 50) .nil)) envL st3 = .ok [.cel 0, .int 50] st3 from rfl)]
      refine wM_mono (ok_roll 14 50 (by omega) (by omega) st3 c3) ?_
      rintro v st5 ⟨z, rfl, z0, z1, c5⟩
      rw [bin_addI, wM_some, wM_bnd, evEs, wM_ret, wM_ret, wM_ret]
      obtain ⟨p, hp⟩ : ∃ p : Nat, (1 : Int) + x = p := ⟨(1 + x).toNat, by omega⟩
      have p1 : 1 ≤ p := by omega
      have p3 : p ≤ 3 := by omega
      have b1 : (10 : Int) ≤ 10 + z := by omega
      have b2 : 10 + z ≤ 59 := by omega
      generalize (10 : Int) + z = b at b1 b2 ⊢
      generalize (1 : Int) + x = P at hp ⊢
      show wS (evSs (callN ds 15) _ [.no, .val (.cel 0), .no, .val (.int P), .val (.int b), .no, .no, .no, .no, .no, .no] st5) _
      rw [wS_asgN (by show 5 < 11; decide), wM_of (lo_ev (callN ds 15) P b hp p3 st5), wS_asgN (by show 6 < 11; decide), evE, evEs, bnd_ret, wM_ret, wS_kill]
      have k := gp_ok p1 p3 b1 b2
      have hwl : (hws p p b).length = p + p := by unfold hws; simp
      obtain ⟨g1, g2, g3, g4⟩ := gp_all ⟨p, by omega⟩ p1
      simp only at g1 g2 g3 g4
      have hmg := fun s hs => may_gp p3 b1 b2 s hs
      obtain ⟨f, a1, a2, r, hf, h1, h2, h3, h4, h5, h6, h7, h8, h9⟩ := cnt_facts k (by omega)
      have hmost := (mostV_ok (f := cntB (may b 7 (hws p p b) [])) (ords_ne (m := (hws p p b).length) (by omega))).2 (mixL p p) (by rw [hwl]; exact g4)
      have kk := rg_ok 8 k (by omega) hf h1 h3
      rw [hwl] at hf h7 h5 h6 kk hmost
      rw [few_congr hmg, g1] at hf
      have hf := Option.some.inj hf
      have gm := cnt_congr hmg (ords_mem.mp g4).1
      have gr := cnt_congr hmg (asc_nd (rI_asc (p + p)))
      rw [g2] at gm
      rw [g3] at gr
      have q1 := kk.belt _ g4 st5
      have q2 := kk.belt _ (ords_perm.mpr (List.Perm.refl (rI (p + p)))) st5
      have q3 := kk.count st5
      have ql1 := len_BG (BL (may b 7 (hws p p b) []) (mixL p p))
      have ql2 := len_BG (BL (may b 7 (hws p p b) []) (rI (p + p)))
      rw [BL_len] at ql1 ql2
      have hx1 : M.ix (pK (cntB (may b 7 (hws p p b) [])) a1) (.int 0) = M.ret (.int (cntB (may b 7 (hws p p b) []) a1)) := rfl
      have hx2 : M.ix (pK (cntB (may b 7 (hws p p b) [])) a2) (.int 0) = M.ret (.int (cntB (may b 7 (hws p p b) []) a2)) := rfl
      have v1 : cntB (may b 7 (hws p p b) []) (mixL p p) = 2 * P := by omega
      have v2 : cntB (may b 7 (hws p p b) []) (rI (p + p)) = P + 1 := by omega
      have v3 : cntB (may b 7 (hws p p b) []) a1 = P + 1 := by omega
      have v4 : cntB (may b 7 (hws p p b) []) a2 = 2 * P := by omega
      rw [v1] at ql1
      rw [v2] at ql2
      rw [v3] at hx1
      rw [v4] at hx2
      have hg : (range1 (.int (2 * P))).map PV.tup = some (CV (rI (p + p))) := by
        rw [show (2 : Int) * P = ((p + p : Nat) : Int) by omega]
        exact rg_CV (p + p) (by omega)
      have hmul : binP .mul (.int 2) (.int P) = some (.int (2 * P)) := rfl
      have hadd := bin_addI P 1
      have hs := kk.same (.tup [.int (2 * P), .int (P + 1), .int (P + 1), .int (2 * P)]) (by simp [plB]) st5
      clear kk h1 h2 h3 k hmg hmost h4 h5 h6 h7 h8 h9 v1 v2 v3 v4 gm gr
      generalize LV b 7 (hws p p b) [] = B at q1 q2 q3 ⊢
      generalize pK (cntB (may b 7 (hws p p b) [])) a1 = P1 at q3 hx1
      generalize pK (cntB (may b 7 (hws p p b) [])) a2 = P2 at q3 hx2
      generalize BG (BL (may b 7 (hws p p b) []) (mixL p p)) = G1 at q1 ql1
      generalize BG (BL (may b 7 (hws p p b) []) (rI (p + p))) = G2 at q2 ql2
      show wS (evSs (callN ds 15) _ (eM P B (mixL p 0) .no .no .no .no) st5) _
      obtain ⟨its, hits, hlen, hget⟩ := rg_it P p hp (by omega)
      rw [wS_for (show evI (callN ds 15) (.r1 (.var 3)) (eM P B (mixL p 0) .no .no .no .no) st5 = .ok its st5 by
        unfold eM
        simp [evI, evE, look, rdV, opt_some, bnd_ret, hits, M.ret])]
      refine wFor (fun i env st => env = eM P B (mixL p i) .no .no .no .no ∧ st = st5) ?_ ?_ _ _ ⟨rfl, rfl⟩
      · rintro i y env st hy ⟨rfl, rfl⟩
        obtain ⟨I, rfl, hI, hi⟩ := hget i y hy
        have ha := addCC (mixL p i) [I, P + I] (by rw [mix_len]; simp; omega)
        have hpi := bin_addI P I
        have e : mixL p i ++ [I, P + I] = mixL p (i + 1) := by
          rw [mix_succ, hI, hp]
          simp
        rw [e, show CV [I, P + I] = PV.tup [.int I, .int (P + I)] from rfl] at ha
        show wS (evSs (callN ds 15) (.cons (.asg (.name 6) (.bin .add (.var 6) (.tup (.cons (.var 7) (.cons (.bin .add (.var 3) (.var 7)) .nil))))) .nil) (eM P B (mixL p i) (.val (.int I)) .no .no .no) st) _
        have ev : evE (callN ds 15) (.bin .add (.var 6) (.tup (.cons (.var 7) (.cons (.bin .add (.var 3) (.var 7)) .nil)))) (eM P B (mixL p i) (.val (.int I)) .no .no .no) st = .ok (CV (mixL p (i + 1))) st := by
          unfold eM
          generalize CV (mixL p (i + 1)) = R at ha ⊢
          generalize CV (mixL p i) = R2 at ha ⊢
          generalize P + I = s at hpi ha
          simp [evE, evEs, look, rdV, opt_some, bnd_ret, hpi, ha, M.ret]
        rw [wS_asgN (by show 6 < 11; decide), wM_of ev, wS_nil]
        exact ⟨rfl, rfl⟩
      · rintro env st ⟨rfl, rfl⟩
        rw [hlen, nx_nx]
        have et : evE (callN ds 15) toE (eM P B (mixL p p) .no .no .no .no) st = .ok (.tup [.int (2 * P), .int (P + 1), .int (P + 1), .int (2 * P)]) st := by
          have y1 : M.ix (.tup [P1, P2]) (.int 0) = M.ret P1 := rfl
          have y2 : M.ix (.tup [P1, P2]) (.int 1) = M.ret P2 := rfl
          unfold toE eM
          generalize CV (mixL p p) = X at q1 ⊢
          generalize CV (rI (p + p)) = R at q2 hg
          generalize PV.tup [P1, P2] = PP at q3 y1 y2
          generalize (2 : Int) * P = t at *
          generalize P + 1 = u at *
          simp [evE, evEs, look, rdV, opt_some, bnd_ret, M.bnd, M.ret, hmul, hg, q1, q2, q3, ql1, ql2, y1, y2, hx1, hx2]
        rw [wS_asgN (by show 8 < 11; decide), wM_of et]
        show wS (evSs (callN ds 15) _ (eM P B (mixL p p) .no (.val (.tup [.int (2 * P), .int (P + 1), .int (P + 1), .int (2 * P)])) .no .no) st) _
        have t1 : evT (callN ds 15) tsT (eM P B (mixL p p) .no (.val (.tup [.int (2 * P), .int (P + 1), .int (P + 1), .int (2 * P)])) .no .no) st = .ok false st := by
          unfold tsT eM
          generalize CV (mixL p p) = X
          generalize (2 : Int) * P = t at *
          generalize P + 1 = u at *
          simp [evT, evE, evEs, look, rdV, opt_some, bnd_ret, M.bnd, M.ret, hmul, hadd, hs, truthP]
        rw [wS_ifF t1]
        generalize PV.tup [.int (2 * P), .int (P + 1), .int (P + 1), .int (2 * P)] = T8
        rw [wS_asgN (by show 9 < 11; decide), evE, wM_bnd, evE, wM_ret, wM_bnd, evE, wM_bnd, wM_of (show evEs (callN ds 15) (.cons (.var 1) (.cons (.int 7) .nil)) (eM P B (mixL p p) .no (.val T8) .no .no) st = .ok [.cel 0, .int 7] st from rfl)]
        refine wM_mono (ok_roll 14 7 (by omega) (by omega) st c5) ?_
        rintro v st6 ⟨u, rfl, u0, u1, c6⟩
        rw [bin_addI, wM_some]
        obtain ⟨m, hm⟩ : ∃ m : Nat, (1 : Int) + u = m := ⟨(1 + u).toNat, by omega⟩
        have m1 : 1 ≤ m := by omega
        have m7 : m ≤ 7 := by omega
        generalize (1 : Int) + u = N at hm ⊢
        show wS (evSs (callN ds 15) _ (eM P B (mixL p p) .no (.val T8) (.val (.int N)) .no) st6) _
        rw [wS_asgN (by show 10 < 11; decide)]
        have hfl : ∀ Q : PV → Sto → Prop, (∀ W st', 1 ≤ W → W ≤ 28 → Cup st' → Q (LV 200 7 (List.replicate m W) []) st') → wM (evE (callN ds 15) flE (eM P B (mixL p p) .no (.val T8) (.val (.int N)) .no)) Q st6 := fun Q hQ => by
          unfold flE eM
          generalize CV (mixL p p) = X
          simp [evE, evEs, look, rdV, opt_some, bnd_ret, bnd_assoc, wM_bnd, wM_ret]
          refine wM_mono (ok_roll 14 28 (by omega) (by omega) st6 c6) ?_
          rintro v st7 ⟨w, rfl, w0, w1, c7⟩
          have hq := mulT (1 + w) N m hm (by omega)
          have := hQ (1 + w) st7 (by omega) (by omega) c7
          simp [bin_addI, opt_some, bnd_ret, bnd_assoc, wM_bnd, wM_ret, hq]
          exact this
        refine hfl _ fun W st' w1 w2 c7 => ?_
        show wS (evSs (callN ds 15) _ (eM P B (mixL p p) .no (.val T8) (.val (.int N)) (.val (LV 200 7 (List.replicate m W) []))) st') _
        rw [wS_ret]
        refine wM_mono (last_w B T8 (mixL p p) N hm m1 m7 w1 w2 st' c7) ?_
        rintro v st9 rfl
        rfl
  obtain ⟨v, st, e, rfl⟩ := wM_ex key
  exact ⟨st, e⟩
end Lw

set_option maxHeartbeats 0
namespace Lw
open PySem PySem.Spec PyProof.Rows L2 Pv
def fn : List He.DefD := xs.map (·.dd)
def fa : List He.Fa := faOf ds gi
abbrev hk : PySem.W.Hook := He.hookD 4 fa fn
def ob (s : PySem.W.SharedT) : He.AlD := He.obsDG 4 fa fn (HandSHeadRun.getT s)
theorem ob_eq (s : PySem.W.SharedT) : ob s = hk.obs s.abs := He.obsDG_eq (HandSHeadRun.getT_eq s)
theorem run (w : World) : HandSHeadRun.RunEq R (PySem.W.view R.prog [LI]) hk ob 3000 loose w := by
  intro os
  kernel_rfl
end Lw

set_option maxHeartbeats 0
namespace Lw
open PySem PySem.Spec PyProof.Rows L2 Pv
abbrev DEEP : Nat := 16
theorem fin {P : Program} {w : World} {K : PySem.W.Frag} {h : Heap} {mg : Str → Option Value} {f : Addr} (law : ∀ ns : List Int, ns.length ≤ 63 → ∃ st, callN ds DEEP LX [.scr ns] [] = .ok (.bl true) st) (X : K.In h) (G : h.Ns mainGlobals mg) (hfa : mg (Str.ofString "law") = some (.ref f)) (c : He.SaysD fa fn K) :
    ∃ fd : FuncData, (∀ (s : Shared) (v : Value), BindsTo s fd ⟨[v], []⟩ [(Str.ofString "script", v)]) ∧ (∀ base : Heap, FnOk P w K mg base (L2.CX P w) DEEP f fd [Str.ofString "script"] (spOf K 1 (callN ds DEEP LX))) := by
  obtain ⟨fd, h1, h2⟩ := facts_all (P := P) (w := w) X G c (xs := xs) rfl dsXs okAll bxs
  have F := h2 LX _ rfl
  have e := hfa.symm.trans (He.glo_ok X G (He.SaysD.facts c (f := .glo (Str.ofString "law")) (List.mem_append_left _ (List.mem_append_left _ (List.mem_map.mpr ⟨_, List.mem_of_getElem? (show ds[LX]? = some _ from rfl), rfl⟩)))))
  cases e
  have b := FunD.bindsA (ps := [Str.ofString "script"]) F fun _ _ _ _ _ _ us hl => match us, hl with | [_], _ => rfl
  exact ⟨fd LX, fun s v => b s [v] rfl, fun base => h1 DEEP LX _ base rfl⟩
end Lw
open PySem PySem.W PySem.Calls PyProof.Rows
theorem holds_of (law : ∀ ns : List Int, ns.length ≤ 63 → ∃ st, Pv.callN Lw.ds Lw.DEEP Lw.LX [.scr ns] [] = .ok (.bl true) st) : PySem.Challenge.rw_sortingoffice_k20_whole_belts.Holds := by
  w_on; o_law
  refine HandSHeadRun.head_any (r := OpenLaw.row PySem.Challenge.rw_sortingoffice_k20_whole_belts) (q := view (OpenLaw.row PySem.Challenge.rw_sortingoffice_k20_whole_belts).prog [Lw.LI]) (H := Lw.hk) (ob := Lw.ob) (M := 3000) (loose := Lw.loose) (d := HandSHeadRun.topDef (OpenLaw.row PySem.Challenge.rw_sortingoffice_k20_whole_belts).prog Lw.LI) (kwd := []) Lw.ob_eq
    (by kernel_rfl) (fun s => by kernel_rfl) Lw.run (by kernel_rfl) (by kernel_rfl) (by kernel_rfl) (by rfl) (by first | assumption | decide +kernel) (by decide +kernel) ⟨rfl, rfl, rfl, rfl, rfl, by decide +kernel⟩ ?hw ?hc
  case hw => w_witness2
  case hc =>
    refine Pv.walkW (l := PySem.Challenge.rw_sortingoffice_k20_whole_belts) (n := 63) (k := Lw.DEEP) (x := Str.ofString "script") rfl (by decide) (by kernel_rfl) ⟨rfl, by decide, by decide⟩ ?F
    intro w mg fa h Y G hmg0
    obtain ⟨K, KX, c⟩ := Y
    have hmg : mg (Str.ofString "law") = some (.ref fa) := by
      have e : (HandSHeadRun.topDef (OpenLaw.row PySem.Challenge.rw_sortingoffice_k20_whole_belts).prog Lw.LI).name = (Str.ofString "law") := by kernel_rfl
      rw [← e]
      exact hmg0
    obtain ⟨fd, hb, hF⟩ := Lw.fin (P := (PySem.Challenge.rw_sortingoffice_k20_whole_belts).prog) (w := w) law KX G hmg c
    exact ⟨K, fd, _, KX, hb, fun H a ns hl hS => Pv.law_sp (d := Lw.d30) rfl law H a ns hl hS, hF⟩

theorem PySem.Challenge.cw_sortingoffice_k20_whole_belts_holds : PySem.Challenge.rw_sortingoffice_k20_whole_belts.Holds := by
  exact holds_of Lw.law_true
