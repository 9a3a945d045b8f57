import PyProof.Rows.All
import Wide.All
import OpenK.AllK
import Wide.FinOn
import HandS.ForMost
import HandS.TupMul
import HandS.Wide
import HandS.TupAny
import HandS.Deep
import HandS.Gcd
import HandS.SortInts
import HandS.Style
import HandS.IsInst
import HandS.WideMore
import KE.DataEq
import KE.DataIsa
import KE.DataAny
import KE.DataMinMax
import KE.KTupSum
import KE.SortData
import KE.KRevSl
import HandS.Conv
import HandS.Struct
import HandS.Walk
import HandS.WideBits
import HandS.Words
import PySem.Challenge.RW_surelyflowed_k30_whole_lakes_that_are_en
set_option Elab.async false
set_option linter.all false
set_option maxRecDepth 100000
set_option maxHeartbeats 0
set_option exponentiation.threshold 100000
/-! Mini: a small language of values, its evaluator. -/
namespace Mini

/-- values: `tup` a tuple, `vl` a list that nobody changes any more, `fl` a list from outside (the script) -/
inductive D where
  | non | bl (b : Bool) | int (i : Int) | str (s : List Nat) | tup (xs : List D) | vl (xs : List D) | fl (xs : List D)
  deriving Inhabited

/-- what a name holds: nothing that is known, a value, a list of its own, that list while a loop walks it -/
inductive B where
  | no | val (d : D) | cell (xs : List D) | lock (xs : List D)
  deriving Inhabited
abbrev Env := List B
/-- what an expression gives: a value, a new list, the list of a name -/
inductive RV where
  | val (d : D) | own (xs : List D) | ref (i : Nat)
  deriving Inhabited

inductive Bop where | add | sub | mul | fdiv | mod | pow
  deriving DecidableEq, Repr
inductive Cop where | eq | ne | lt | le | gt | ge | isin | notin
  deriving DecidableEq, Repr
inductive Bi where | len | sum | min1 | max1 | min2 | max2 | abs | int | tuple | list | sorted | all | any | gcd | isBool | isInt | isStr | isTuple
  deriving DecidableEq, Repr
inductive Mt where | index | bitlen
  deriving DecidableEq, Repr
/-- a target: a name, or a tuple of names -/
inductive T where | nm (i : Nat) | tp (is : List Nat)
  deriving Repr

mutual
inductive E where
  | non | bl (b : Bool) | int (i : Int) | str (s : List Nat)
  | var (i : Nat)
  | gl (c : Nat)
  | tup (es : Es) | lst (es : Es)
  | bin (op : Bop) (a b : E)
  | neg (a : E) | not (a : E)
  | cmp (op : Cop) (a b : E)
  | chain (op op' : Cop) (a b c : E)
  | isN (a : E) (y : Bool)
  | isB (a : E) (b : Bool) (y : Bool)
  | and (es : Es) | or (es : Es)
  | ite (c a b : E)
  | idx (a i : E)
  | slT (a hi : E) | slF (a lo : E) | slB (a lo hi : E) | rev (a : E)
  | call (f : Nat) (es : Es)
  | bi (b : Bi) (es : Es)
  | mt (m : Mt) (a : E) (es : Es)
  | pop (i : Nat) | popAt (i : Nat) (a : E)
  | rng (es : Es)
  | comp (own : List Nat) (elt : E) (t : T) (iter : E)
  | compIf (own : List Nat) (elt : E) (t : T) (iter : E) (c : E)
inductive Es where
  | nil | cons (e : E) (es : Es)
end

mutual
inductive S where
  | asg (i : Nat) (e : E)
  | asgT (is : List Nat) (e : E)
  | par (is : List Nat) (es : Es)
  | setI (i : Nat) (ix e : E)
  | aug (op : Bop) (i : Nat) (e : E)
  | augI (op : Bop) (i : Nat) (ix e : E)
  | app (i : Nat) (e : E)
  | revI (i : Nat)
  | expr (e : E)
  | ret (e : E)
  | retN
  | ite (c : E) (a b : Ss)
  | for (t : T) (it : E) (b : Ss)
  | while (c : E) (b : Ss)
  | brk
  | pass
  | kill (ks : List Nat)
inductive Ss where
  | nil | cons (s : S) (ss : Ss)
end

/-- how a suite ends -/
inductive Out where | next | brk | ret (r : RV)
  deriving Inhabited

/-! ### plain operations -/
def LIM : Nat := 16777216
def BIG : Nat := 2 ^ 1000000
/-- how many turns a while may take: more than any takes -/
def W0 : Nat := 2 ^ 4096

mutual
/-- Python's == -/
def eqD : D → D → Bool
  | .non, .non => true
  | .bl a, .bl b => a == b
  | .int a, .int b => a == b
  | .bl a, .int b => (if a then 1 else 0) == b
  | .int a, .bl b => a == (if b then 1 else 0)
  | .str a, .str b => a == b
  | .tup a, .tup b => eqDs a b
  | .vl a, .vl b => eqDs a b
  | .vl a, .fl b => eqDs a b
  | .fl a, .vl b => eqDs a b
  | .fl a, .fl b => eqDs a b
  | _, _ => false
def eqDs : List D → List D → Bool
  | [], [] => true
  | a :: as, b :: bs => eqD a b && eqDs as bs
  | _, _ => false
end

mutual
/-- Python's < where it is served: ints, texts, tuples of these -/
def ltD : D → D → Option Bool
  | .int a, .int b => some (decide (a < b))
  | .str a, .str b => some (decide (a < b))
  | .tup a, .tup b => ltDs a b
  | _, _ => none
def ltDs : List D → List D → Option Bool
  | [], [] => some false
  | [], _ :: _ => some true
  | _ :: _, [] => some false
  | a :: as, b :: bs => if eqD a b then ltDs as bs else ltD a b
end

mutual
def depD : D → Nat
  | .tup xs => depDs xs + 1
  | .vl xs => depDs xs + 1
  | .fl xs => depDs xs + 1
  | _ => 0
def depDs : List D → Nat
  | [] => 0
  | x :: xs => max (depD x) (depDs xs)
end
/-- shallow enough on one side -/
def dok (a b : Nat) : Bool := decide (a ≤ 64) || decide (b ≤ 64)

def mulOk (i j : Int) : Bool := decide (i.natAbs < 2 ^ 64) || decide (j.natAbs < 2 ^ 64) || (decide (i.natAbs < BIG) && decide (j.natAbs < BIG))
def divOk (j : Int) : Bool := decide (j ≠ 0) && decide (j.natAbs < 2 ^ 9000)
def powOk (i j : Int) : Bool := decide (0 ≤ j) && decide (j ≤ 1000000) && decide (i.natAbs < 2 ^ 64)
def rngOk (i : Int) : Bool := decide (i.natAbs < 2 ^ 62)

def rep (xs : List D) (k : Int) : List D := (List.replicate k.toNat xs).flatten

def binop : Bop → D → D → Option RV
  | .add, .int a, .int b => some (.val (.int (a + b)))
  | .add, .tup a, .tup b => if a.length + b.length ≤ LIM then some (.val (.tup (a ++ b))) else none
  | .add, .vl a, .vl b => if a.length + b.length ≤ LIM then some (.own (a ++ b)) else none
  | .add, .str a, .str b => if a.length + b.length ≤ LIM then some (.val (.str (a ++ b))) else none
  | .sub, .int a, .int b => some (.val (.int (a - b)))
  | .mul, .int a, .int b => if mulOk a b then some (.val (.int (a * b))) else none
  | .mul, .vl a, .int k => if rngOk k && decide (a.length * k.toNat ≤ LIM) then some (.own (rep a k)) else none
  | .mul, .tup a, .int k => if decide (-1000 ≤ k) && decide (k ≤ 1000) && decide (a.length ≤ 1000) then some (.val (.tup (rep a k))) else none
  | .fdiv, .int a, .int b => if divOk b then some (.val (.int (a.fdiv b))) else none
  | .mod, .int a, .int b => if b ≠ 0 then some (.val (.int (a.fmod b))) else none
  | .pow, .int a, .int b => if powOk a b then some (.val (.int (a ^ b.toNat))) else none
  | _, _, _ => none

/-- in place: ints, and a tuple made longer -/
def binI : Bop → D → D → Option RV
  | op, .int a, .int b => binop op (.int a) (.int b)
  | .add, .tup a, .tup b => binop .add (.tup a) (.tup b)
  | _, _, _ => none
def isinD (x : D) : List D → Bool
  | [] => false
  | y :: ys => eqD y x || isinD x ys

def cmpop : Cop → D → D → Option Bool
  | .eq, a, b => if dok (depD a) (depD b) then some (eqD a b) else none
  | .ne, a, b => if dok (depD a) (depD b) then some (!eqD a b) else none
  | .lt, .int a, .int b => some (decide (a < b))
  | .le, .int a, .int b => some (decide (a ≤ b))
  | .gt, .int a, .int b => some (decide (b < a))
  | .ge, .int a, .int b => some (decide (b ≤ a))
  | .isin, x, .tup ys => if dok (depDs ys) (depD x) then some (isinD x ys) else none
  | .isin, x, .vl ys => if dok (depDs ys) (depD x) then some (isinD x ys) else none
  | .isin, .str [c], .str ys => some (decide (c ∈ ys))
  | .notin, x, .tup ys => if dok (depDs ys) (depD x) then some (!isinD x ys) else none
  | .notin, x, .vl ys => if dok (depDs ys) (depD x) then some (!isinD x ys) else none
  | .notin, .str [c], .str ys => some (!decide (c ∈ ys))
  | _, _, _ => none

def seqOf : D → Option (List D)
  | .tup xs => some xs
  | .vl xs => some xs
  | .fl xs => some xs
  | _ => none

def lstOf : D → Option (List D)
  | .vl xs => some xs
  | .fl xs => some xs
  | _ => none
def intsD : List D → Option (List Int)
  | [] => some []
  | .int i :: r => (intsD r).map (i :: ·)
  | _ => none
def minI (m : Int) (l : List Int) : Int := l.foldl min m
def maxI (m : Int) (l : List Int) : Int := l.foldl max m
def sortI (l : List Int) : List Int := l.mergeSort fun a b => decide (a ≤ b)
def tl1 : List Int → Option (Int × List Int)
  | [] => none
  | x :: r => some (x, r)
def blsD : List D → Option (List Bool)
  | [] => some []
  | .bl b :: r => (blsD r).map (b :: ·)
  | _ => none
def lenD : D → Option Nat
  | .tup xs => some xs.length
  | .vl xs => some xs.length
  | .fl xs => some xs.length
  | .str s => if s.length ≤ LIM then some s.length else none
  | _ => none
mutual
def ordD : D → Bool
  | .int _ => true
  | .tup xs => ordDs xs
  | _ => false
def ordDs : List D → Bool
  | [] => true
  | x :: xs => ordD x && ordDs xs
end
mutual
/-- a value as a row of whole numbers, for its order -/
def kt : D → List Int
  | .int n => [n]
  | .tup xs => kts xs
  | _ => []
def kts : List D → List Int
  | [] => [0]
  | x :: xs => 1 :: (kt x ++ kts xs)
end
mutual
def alk : D → D → Bool
  | .int _, .int _ => true
  | .tup xs, .tup ys => alks xs ys
  | _, _ => false
def alks : List D → List D → Bool
  | x :: xs, y :: ys => alk x y && alks xs ys
  | [], _ => true
  | _ :: _, [] => true
end
def lexI : List Int → List Int → Bool
  | [], [] => false
  | [], _ :: _ => true
  | _ :: _, [] => false
  | x :: r, y :: t => decide (x < y) || (!decide (y < x) && lexI r t)
def ltO (a b : D) : Bool := lexI (kt a) (kt b)
def leO (a b : D) : Bool := !ltO b a
def isT1 : D → Bool
  | .tup (_ :: _) => true
  | _ => false
/-- values that Python can put in order: tuples with an item, place by place of one kind -/
def ordOk (xs : List D) : Bool := xs.all (fun x => ordD x && isT1 x && decide (depD x ≤ 8)) && xs.all fun x => xs.all fun y => alk x y
def minOf (m : D) (l : List D) : D := l.foldl (fun a y => if ltO y a then y else a) m
def maxOf (m : D) (l : List D) : D := l.foldl (fun a y => if ltO a y then y else a) m
def ordA (xs : List D) : Option (List D) := if ordOk xs then some xs else none
def ordL : List D → Option (D × List D)
  | [] => none
  | m :: r => if ordOk (m :: r) then some (m, r) else none
def bip : Bi → List D → Option RV
  | .len, [x] => (lenD x).map fun n => .val (.int n)
  | .sum, [x] => ((seqOf x).bind intsD).map fun l => .val (.int l.sum)
  | .min1, [x] => ((((seqOf x).bind intsD).bind tl1).map fun (m, r) => RV.val (.int (minI m r))).or (((seqOf x).bind ordL).map fun (m, r) => .val (minOf m r))
  | .max1, [x] => ((((seqOf x).bind intsD).bind tl1).map fun (m, r) => RV.val (.int (maxI m r))).or (((seqOf x).bind ordL).map fun (m, r) => .val (maxOf m r))
  | .min2, [.int i, .int j] => some (.val (.int (if j < i then j else i)))
  | .max2, [.int i, .int j] => some (.val (.int (if i < j then j else i)))
  | .abs, [.int i] => some (.val (.int (if i < 0 then -i else i)))
  | .int, [.int i] => some (.val (.int i))
  | .int, [.bl b] => some (.val (.int (if b then 1 else 0)))
  | .tuple, [x] => (seqOf x).map fun xs => .val (.tup xs)
  | .list, [x] => (seqOf x).map .own
  | .sorted, [x] => (((lstOf x).bind intsD).map fun l => RV.own ((sortI l).map .int)).or (((lstOf x).bind ordA).map fun l => .own (l.mergeSort leO))
  | .all, [x] => ((seqOf x).bind blsD).map fun l => .val (.bl (l.all id))
  | .any, [x] => ((seqOf x).bind blsD).map fun l => .val (.bl (l.any id))
  | .gcd, [.int i, .int j] => some (.val (.int (Int.gcd i j)))
  | .isBool, [x] => some (.val (.bl (match x with | .bl _ => true | _ => false)))
  | .isInt, [x] => some (.val (.bl (match x with | .int _ => true | .bl _ => true | _ => false)))
  | .isStr, [x] => some (.val (.bl (match x with | .str _ => true | _ => false)))
  | .isTuple, [x] => some (.val (.bl (match x with | .tup _ => true | _ => false)))
  | _, _ => none

/-- the place of a Python index among n -/
def ixP (n : Nat) (i : Int) : Option Nat :=
  if 0 ≤ i then (if i < n then some i.toNat else none) else if 0 ≤ i + n then some (i + n).toNat else none
def idxD (x : D) (i : Int) : Option D :=
  match x with
  | .tup xs => (ixP xs.length i).bind fun k => xs[k]?
  | .vl xs => (ixP xs.length i).bind fun k => xs[k]?
  | .fl xs => (ixP xs.length i).bind fun k => xs[k]?
  | .str s => if s.length ≤ LIM then (ixP s.length i).bind fun k => s[k]?.map fun c => .str [c] else none
  | _ => none
/-- a slice's bound among n -/
def bnd (n : Nat) (i : Int) : Nat := if 0 ≤ i then min i.toNat n else (i + n).toNat
def bndL (n : Nat) : Option Int → Nat
  | none => 0
  | some i => bnd n i
def bndH (n : Nat) : Option Int → Nat
  | none => n
  | some i => bnd n i
def cut {α : Type} (xs : List α) (lo hi : Option Int) : List α := (xs.take (bndH xs.length hi)).drop (bndL xs.length lo)
def slcD (x : D) (lo hi : Option Int) : Option RV :=
  match x with
  | .tup xs => some (.val (.tup (cut xs lo hi)))
  | .vl xs => some (.own (cut xs lo hi))
  | .str s => if s.length ≤ LIM then some (.val (.str (cut s lo hi))) else none
  | _ => none
def revD : D → Option RV
  | .vl xs => some (.own xs.reverse)
  | .tup xs => some (.val (.tup xs.reverse))
  | _ => none
def indexD (x : D) : List D → Option Nat
  | [] => none
  | y :: ys => if eqD y x then some 0 else (indexD x ys).map (· + 1)
def bitLen (n : Nat) : Nat := if n = 0 then 0 else Nat.log2 n + 1
def mtp : Mt → D → List D → Option RV
  | .index, x, [y] => (lstOf x).bind fun xs => if dok (depDs xs) (depD y) then (indexD y xs).map fun (k : Nat) => .val (.int k) else none
  | .bitlen, .int i, [] => some (.val (.int (bitLen i.natAbs)))
  | _, _, _ => none

def truD : D → Option Bool
  | .non => some false
  | .bl b => some b
  | .int i => some (i != 0)
  | .str s => if s.length ≤ LIM then some (!s.isEmpty) else none
  | .tup xs => some (!xs.isEmpty)
  | .vl xs => some (!xs.isEmpty)
  | .fl xs => some (!xs.isEmpty)

def rngList (lo : Int) (n : Nat) (c : Int) : List D := (List.range n).map fun (k : Nat) => .int (lo + k * c)
/-- how many turns range(lo, hi, c) has -/
def rngN (lo hi c : Int) : Nat := if 0 < c then (if lo < hi then ((hi - lo - 1) / c + 1).toNat else 0) else (if hi < lo then ((lo - hi - 1) / (-c) + 1).toNat else 0)
def rngD : List D → Option (List D)
  | [.int j] => if rngOk j then some (rngList 0 j.toNat 1) else none
  | [.int i, .int j] => if rngOk i && rngOk j then some (rngList i (j - i).toNat 1) else none
  | [.int i, .int j, .int c] => if rngOk i && rngOk j && decide (c ≠ 0) && decide (c.natAbs < 1073741824) then some (rngList i (rngN i j c) c) else none
  | _ => none

/-! ### names -/
def get (env : Env) (i : Nat) : B := env.getD i .no
/-- read, without taking a list away from its name -/
def pk (env : Env) : RV → Option D
  | .val d => some d
  | .own xs => some (.vl xs)
  | .ref i => match get env i with
    | .val d => some d
    | .cell xs => some (.vl xs)
    | .lock xs => some (.vl xs)
    | .no => none
/-- as a value for good: a list of a name is nobody's from now on -/
def fz (env : Env) : RV → Option (D × Env)
  | .val d => some (d, env)
  | .own xs => some (.vl xs, env)
  | .ref i => match get env i with
    | .val d => some (d, env)
    | .cell xs => some (.vl xs, env.set i (.val (.vl xs)))
    | _ => none
def bindR (env : Env) (i : Nat) : RV → Option Env
  | .val d => some (env.set i (.val d))
  | .own xs => some (env.set i (.cell xs))
  | .ref j => (fz env (.ref j)).map fun (d, env) => env.set i (.val d)
def setAll (env : Env) : List Nat → List D → Option Env
  | [], [] => some env
  | i :: is, d :: ds => setAll (env.set i (.val d)) is ds
  | _, _ => none
def bindT (env : Env) : T → D → Option Env
  | .nm i, d => some (env.set i (.val d))
  | .tp is, .tup ds => setAll env is ds
  | _, _ => none
/-- a name's list among several results becomes nobody's -/
def unref (env : Env) : List RV → Option (List RV × Env)
  | [] => some ([], env)
  | .ref i :: rs => (fz env (.ref i)).bind fun (d, env) => (unref env rs).map fun (rs, env) => (.val d :: rs, env)
  | r :: rs => (unref env rs).map fun (rs, env) => (r :: rs, env)
def bindRs (env : Env) : List Nat → List RV → Option Env
  | [], [] => some env
  | i :: is, r :: rs => (bindR env i r).bind fun env => bindRs env is rs
  | _, _ => none
def wipe (env : Env) : List Nat → Env
  | [] => env
  | i :: is => wipe (env.set i .no) is
def restore (old env : Env) : List Nat → Env
  | [] => env
  | i :: is => restore old (env.set i (get old i)) is
/-- what a loop walks: its items; a name's list is locked meanwhile -/
def itR (env : Env) : RV → Option (List D × Env × Option Nat)
  | .val (.tup xs) => some (xs, env, none)
  | .val (.vl xs) => some (xs, env, none)
  | .val (.fl xs) => some (xs, env, none)
  | .val (.str s) => some (s.map fun c => .str [c], env, none)
  | .val _ => none
  | .own xs => some (xs, env, none)
  | .ref i => match get env i with
    | .cell xs => some (xs, env.set i (.lock xs), some i)
    | .lock xs => some (xs, env, none)
    | .val (.tup xs) => some (xs, env, none)
    | .val (.vl xs) => some (xs, env, none)
    | .val (.fl xs) => some (xs, env, none)
    | _ => none
def unlock (env : Env) : Option Nat → Env
  | none => env
  | some i => match get env i with
    | .lock xs => env.set i (.cell xs)
    | _ => env
/-- arguments: a name's list is lent; a value is handed over -/
def argB1 (env : Env) : RV → Option B
  | .val d => some (.val d)
  | .own xs => some (.val (.vl xs))
  | .ref i => match get env i with
    | .cell xs => some (.cell xs)
    | .lock xs => some (.lock xs)
    | .val d => some (.val d)
    | .no => none
def argB (env : Env) : List RV → Option (List B)
  | [] => some []
  | r :: rs => (argB1 env r).bind fun b => (argB env rs).map (b :: ·)
def refs : List RV → List Nat
  | [] => []
  | .ref i :: r => i :: refs r
  | _ :: r => refs r
/-- behind a call: what was lent comes back -/
def back1 (env : Env) (i : Nat) (b : B) : Option Env :=
  match get env i, b with
  | .cell _, .cell ys => some (env.set i (.cell ys))
  | .cell _, .lock ys => some (env.set i (.cell ys))
  | .cell _, .val d => some (env.set i (.val d))
  | .lock _, .lock _ => some env
  | .val _, _ => some env
  | _, _ => none
def backB (env : Env) : List RV → List B → Option Env
  | [], [] => some env
  | .ref i :: rs, b :: bs => (back1 env i b).bind fun env => backB env rs bs
  | _ :: rs, _ :: bs => backB env rs bs
  | _, _ => none

/-! ### the evaluator -/
/-- what a call of the f-th def gives, and what its parameters hold behind it -/
abbrev Calls := Nat → List B → Option (RV × List B)

def compL (f : D → Env → Option (D × Env)) : List D → Env → Option (List D × Env)
  | [], env => some ([], env)
  | x :: r, env => (f x env).bind fun (d, env) => (compL f r env).map fun (ds, env) => (d :: ds, env)
def compIfL (c : D → Env → Option (Bool × Env)) (f : Env → Option (D × Env)) : List D → Env → Option (List D × Env)
  | [], env => some ([], env)
  | x :: r, env => (c x env).bind fun (k, env) => if k then (f env).bind fun (d, env) => (compIfL c f r env).map fun (ds, env) => (d :: ds, env) else compIfL c f r env
def forL (f : D → Env → Option (Out × Env)) : List D → Env → Option (Out × Env)
  | [], env => some (.next, env)
  | x :: r, env => (f x env).bind fun (o, env) => match o with
    | .next => forL f r env
    | .brk => some (.next, env)
    | .ret v => some (.ret v, env)
def whL (c : Env → Option (Bool × Env)) (b : Env → Option (Out × Env)) : Nat → Env → Option (Out × Env)
  | 0, _ => none
  | n + 1, env => (c env).bind fun (k, env) => if k then (b env).bind fun (o, env) => match o with
    | .next => whL c b n env
    | .brk => some (.next, env)
    | .ret v => some (.ret v, env) else some (.next, env)
def lim (xs : List D) : Option (List D) := if xs.length ≤ LIM then some xs else none
def popL (env : Env) (i : Nat) : Option (RV × Env) :=
  match get env i with
  | .cell xs => (xs.getLast?).map fun d => (.val d, env.set i (.cell xs.dropLast))
  | _ => none
def popI (env : Env) (i : Nat) (k : Int) : Option (RV × Env) :=
  match get env i with
  | .cell xs => if rngOk k then (ixP xs.length k).bind fun j => (xs[j]?).map fun d => (.val d, env.set i (.cell (xs.eraseIdx j))) else none
  | _ => none
def blR : RV → Option Bool
  | .val (.bl b) => some b
  | _ => none
def intD : D → Option Int
  | .int i => some i
  | _ => none
def setL (env : Env) (i : Nat) (k : Int) (d : D) : Option Env :=
  match get env i with
  | .cell xs => (ixP xs.length k).map fun j => env.set i (.cell (xs.set j d))
  | _ => none
def appL (env : Env) (i : Nat) (d : D) : Option Env :=
  match get env i with
  | .cell xs => if xs.length < LIM then some (env.set i (.cell (xs ++ [d]))) else none
  | _ => none
def noRef : RV → Bool
  | .ref _ => false
  | _ => true
def mtK : Mt → D → Bool
  | .index, x => (lstOf x).isSome
  | .bitlen, .int _ => true
  | _, _ => false
def callB (Φ : Calls) (f : Nat) (rs : List RV) (env : Env) : Option (RV × Env) :=
  if (refs rs).Nodup then (argB env rs).bind fun bs => (Φ f bs).bind fun (r, bs') => if noRef r then (backB env rs bs').map fun env => (r, env) else none else none

/-- a test's answer, where a test is asked -/
def fin (m : Bool) (o : Option (RV × Env)) : Option (RV × Env) :=
  if m then o.bind fun (r, env) => (pk env r).bind fun x => (truD x).map fun k => (.val (.bl k), env) else o
def tst (o : Option (RV × Env)) : Option (Bool × Env) := o.bind fun (r, env) => (blR r).map fun k => (k, env)
def pks (env : Env) : List RV → Option (List D)
  | [] => some []
  | r :: rs => (pk env r).bind fun d => (pks env rs).map (d :: ·)

section
variable (G : List D) (Φ : Calls)
mutual
/-- m: as a test -/
def evX : E → Bool → Env → Option (RV × Env)
  | .non, m, env => fin m (some (.val .non, env))
  | .bl b, m, env => fin m (some (.val (.bl b), env))
  | .int i, m, env => fin m (some (.val (.int i), env))
  | .str s, m, env => fin m (some (.val (.str s), env))
  | .var i, m, env => fin m (match get env i with
    | .no => none
    | .val d => some (.val d, env)
    | _ => some (.ref i, env))
  | .gl c, m, env => fin m ((G[c]?).map fun d => (.val d, env))
  | .tup es, m, env => fin m ((evVs es env).bind fun (ds, env) => (lim ds).map fun ds => (.val (.tup ds), env))
  | .lst es, m, env => fin m ((evVs es env).bind fun (ds, env) => (lim ds).map fun ds => (.own ds, env))
  | .bin op a b, m, env => fin m ((evX a false env).bind fun (ra, env) => (evX b false env).bind fun (rb, env) => (pk env ra).bind fun x => (pk env rb).bind fun y => (binop op x y).map fun r => (r, env))
  | .neg a, m, env => fin m ((evX a false env).bind fun (ra, env) => match ra with
    | .val (.int i) => some (.val (.int (-i)), env)
    | _ => none)
  | .not a, m, env => if m then (tst (evX a true env)).map fun (k, env) => (.val (.bl !k), env)
      else (evX a false env).bind fun (r, env) => (pk env r).bind fun x => (truD x).map fun k => (.val (.bl !k), env)
  | .cmp op a b, m, env => fin m ((evX a false env).bind fun (ra, env) => (evX b false env).bind fun (rb, env) => (pk env ra).bind fun x => (pk env rb).bind fun y => (cmpop op x y).map fun k => (.val (.bl k), env))
  | .chain op op' a b c, m, env => fin m ((evX a false env).bind fun (ra, env) => (evX b false env).bind fun (rb, env) => (pk env ra).bind fun x => (pk env rb).bind fun y => (cmpop op x y).bind fun k =>
      if k then (evX c false env).bind fun (rc, env) => (pk env rb).bind fun y => (pk env rc).bind fun z => (cmpop op' y z).map fun k => (.val (.bl k), env) else some (.val (.bl false), env))
  | .isN a y, m, env => fin m ((evX a false env).bind fun (ra, env) => (pk env ra).map fun x => (.val (.bl ((match x with | .non => true | _ => false) == y)), env))
  | .isB a b y, m, env => fin m ((evX a false env).bind fun (ra, env) => (blR ra).map fun c => (.val (.bl ((c == b) == y)), env))
  | .and es, m, env => (if m then evAnd es env else evAndV es env).map fun (k, env) => (.val (.bl k), env)
  | .or es, m, env => (if m then evOr es env else evOrV es env).map fun (k, env) => (.val (.bl k), env)
  | .ite c a b, m, env => fin m ((tst (evX c true env)).bind fun (k, env) => if k then evX a false env else evX b false env)
  | .idx a i, m, env => fin m ((evX a false env).bind fun (ra, env) => (evX i false env).bind fun (ri, env) => (pk env ra).bind fun x => (pk env ri).bind fun y => (intD y).bind fun k => (idxD x k).map fun d => (.val d, env))
  | .slT a hi, m, env => fin m ((evX a false env).bind fun (ra, env) => (evX hi false env).bind fun (rh, env) => (pk env ra).bind fun x => (pk env rh).bind fun y => (intD y).bind fun j => (slcD x none (some j)).map fun r => (r, env))
  | .slF a lo, m, env => fin m ((evX a false env).bind fun (ra, env) => (evX lo false env).bind fun (rl, env) => (pk env ra).bind fun x => (pk env rl).bind fun y => (intD y).bind fun i => (slcD x (some i) none).map fun r => (r, env))
  | .slB a lo hi, m, env => fin m ((evX a false env).bind fun (ra, env) => (evX lo false env).bind fun (rl, env) => (pk env rl).bind fun y => (intD y).bind fun i => (evX hi false env).bind fun (rh, env) => (pk env ra).bind fun x => (pk env rh).bind fun z =>
      (intD z).bind fun j => (slcD x (some i) (some j)).map fun r => (r, env))
  | .rev a, m, env => fin m ((evX a false env).bind fun (ra, env) => (pk env ra).bind fun x => (revD x).map fun r => (r, env))
  | .call f es, m, env => fin m ((evRs es env).bind fun (rs, env) => callB Φ f rs env)
  | .bi b es, m, env => fin m ((evRs es env).bind fun (rs, env) => (pks env rs).bind fun ds => (bip b ds).map fun r => (r, env))
  | .mt k a es, m, env => fin m ((evX a false env).bind fun (ra, env) => (pk env ra).bind fun x0 => if mtK k x0 then (evRs es env).bind fun (rs, env) => (pk env ra).bind fun x => (pks env rs).bind fun ds => (mtp k x ds).map fun r => (r, env) else none)
  | .pop i, m, env => fin m (popL env i)
  | .popAt i a, m, env => fin m (match get env i with
    | .cell _ => (evX a false env).bind fun (ra, env) => (pk env ra).bind fun y => (intD y).bind fun k => popI env i k
    | _ => none)
  | .rng es, m, env => fin m ((evRs es env).bind fun (rs, env) => (pks env rs).bind fun ds => (rngD ds).bind fun xs => (lim xs).map fun xs => (.own xs, env))
  | .comp own elt t it, m, env => fin m ((evX it false env).bind fun (r, env) => (itR env r).bind fun (xs, env1, lk) => (lim xs).bind fun xs =>
      (compL (fun x e => (bindT (wipe e own) t x).bind fun e => (evX elt false e).bind fun (r, e) => fz e r) xs env1).map fun (ds, env2) => (.own ds, unlock (restore env1 env2 own) lk))
  | .compIf own elt t it c, m, env => fin m ((evX it false env).bind fun (r, env) => (itR env r).bind fun (xs, env1, lk) => (lim xs).bind fun xs =>
      (compIfL (fun x e => (bindT (wipe e own) t x).bind fun e => tst (evX c true e)) (fun e => (evX elt false e).bind fun (r, e) => fz e r) xs env1).map fun (ds, env2) => (.own ds, unlock (restore env1 env2 own) lk))
/-- items that are put into something -/
def evVs : Es → Env → Option (List D × Env)
  | .nil, env => some ([], env)
  | .cons e es, env => (evX e false env).bind fun (r, env) => (fz env r).bind fun (d, env) => (evVs es env).map fun (ds, env) => (d :: ds, env)
def evRs : Es → Env → Option (List RV × Env)
  | .nil, env => some ([], env)
  | .cons e es, env => (evX e false env).bind fun (r, env) => (evRs es env).map fun (rs, env) => (r :: rs, env)
/-- and, or as values: of truth values alone -/
def evAndV : Es → Env → Option (Bool × Env)
  | .nil, env => some (true, env)
  | .cons e es, env => (tst (evX e false env)).bind fun (k, env) => if k then evAndV es env else some (false, env)
def evOrV : Es → Env → Option (Bool × Env)
  | .nil, env => some (false, env)
  | .cons e es, env => (tst (evX e false env)).bind fun (k, env) => if k then some (true, env) else evOrV es env
def evAnd : Es → Env → Option (Bool × Env)
  | .nil, env => some (true, env)
  | .cons e es, env => (tst (evX e true env)).bind fun (k, env) => if k then evAnd es env else some (false, env)
def evOr : Es → Env → Option (Bool × Env)
  | .nil, env => some (false, env)
  | .cons e es, env => (tst (evX e true env)).bind fun (k, env) => if k then some (true, env) else evOr es env
end
def evE (e : E) (env : Env) : Option (RV × Env) := evX G Φ e false env
def evT (e : E) (env : Env) : Option (Bool × Env) := tst (evX G Φ e true env)
def evIt (e : E) (env : Env) : Option (List D × Env × Option Nat) := (evX G Φ e false env).bind fun (r, env) => itR env r
mutual
def exS : S → Env → Option (Out × Env)
  | .asg i e, env => (evE G Φ e env).bind fun (r, env) => (bindR env i r).map fun env => (.next, env)
  | .asgT is e, env => (evE G Φ e env).bind fun (r, env) => (pk env r).bind fun d => (bindT env (.tp is) d).map fun env => (.next, env)
  | .par is es, env => (evRs G Φ es env).bind fun (rs, env) => (unref env rs).bind fun (rs, env) => (bindRs env is rs).map fun env => (.next, env)
  | .setI i ix e, env => (evE G Φ e env).bind fun (r, env) => (fz env r).bind fun (d, env) => match get env i with
    | .cell _ => (evE G Φ ix env).bind fun (ri, env) => (pk env ri).bind fun y => (intD y).bind fun k => (setL env i k d).map fun env => (.next, env)
    | _ => none
  | .aug op i e, env => match get env i with
    | .val x => (evE G Φ e env).bind fun (r, env) => (pk env r).bind fun y => (binI op x y).bind fun r => (bindR env i r).map fun env => (.next, env)
    | .cell _ => (evE G Φ e env).bind fun (r, env) => (pk env r).bind fun y => match op, get env i, y with
      | .add, .cell xs, .vl ys => (lim (xs ++ ys)).map fun zs => (.next, env.set i (.cell zs))
      | _, _, _ => none
    | _ => none
  | .augI op i ix e, env => (evE G Φ ix env).bind fun (ri, env) => (pk env ri).bind fun y => (intD y).bind fun k => (pk env (.ref i)).bind fun l => (idxD l k).bind fun x => (evE G Φ e env).bind fun (r, env) => (pk env r).bind fun z =>
      (binop op x z).bind fun r => (fz env r).bind fun (d, env) => (setL env i k d).map fun env => (.next, env)
  | .app i e, env => match get env i with
    | .cell _ => (evE G Φ e env).bind fun (r, env) => (fz env r).bind fun (d, env) => (appL env i d).map fun env => (.next, env)
    | _ => none
  | .revI i, env => match get env i with
    | .cell xs => some (.next, env.set i (.cell xs.reverse))
    | _ => none
  | .expr e, env => (evE G Φ e env).map fun (_, env) => (.next, env)
  | .ret e, env => (evE G Φ e env).map fun (r, env) => (.ret r, env)
  | .retN, env => some (.ret (.val .non), env)
  | .ite c a b, env => (evT G Φ c env).bind fun (k, env) => if k then exSs a env else exSs b env
  | .for t it b, env => (evIt G Φ it env).bind fun (xs, env, lk) => (forL (fun x e => (bindT e t x).bind fun e => exSs b e) xs env).map fun (o, env) => (o, unlock env lk)
  | .while c b, env => whL (evT G Φ c) (exSs b) W0 env
  | .brk, env => some (.brk, env)
  | .pass, env => some (.next, env)
  | .kill ks, env => some (.next, wipe env ks)
def exSs : Ss → Env → Option (Out × Env)
  | .nil, env => some (.next, env)
  | .cons s ss, env => (exS s env).bind fun (o, env) => match o with
    | .next => exSs ss env
    | o => some (o, env)
end
end

/-- a def: its parameters, its names, the parameters that its body stores to -/
structure Fn where
  np : Nat
  ns : Nat
  asgd : List Nat
  body : Ss
def okArg (asgd : List Nat) (bs : List B) : Bool := asgd.all fun p => match get bs p with | .cell _ => false | .lock _ => false | _ => true
def outR (np : Nat) (env : Env) : RV → Option (RV × Env)
  | .val d => some (.val d, env)
  | .own xs => some (.own xs, env)
  | .ref i => if i < np then (fz env (.ref i)).map fun (d, env) => (.val d, env) else match get env i with
    | .cell xs => some (.own xs, env)
    | .lock xs => some (.own xs, env)
    | .val d => some (.val d, env)
    | .no => none
/-- what the parameters hold behind it -/
def outB (np : Nat) (asgd : List Nat) (env : Env) : List B := (List.range np).map fun i => if asgd.contains i then .no else get env i
def runFn (G : List D) (Φ : Calls) (fn : Fn) (bs : List B) : Option (RV × List B) :=
  if bs.length = fn.np ∧ okArg fn.asgd bs = true then
    (exSs G Φ fn.body (bs ++ List.replicate (fn.ns - fn.np) .no)).bind fun (o, env) => match o with
      | .ret r => (outR fn.np env r).map fun (r, env) => (r, outB fn.np fn.asgd env)
      | .next => some (.val .non, outB fn.np fn.asgd env)
      | .brk => none
  else none
def callF (G : List D) (P : List Fn) : Nat → Calls
  | 0 => fun _ _ => none
  | n + 1 => fun f bs => (P[f]?).bind fun fn => runFn G (callF G P n) fn bs
end Mini

/-! How Mini's values and names stand in the abstract heap. -/
namespace MS
open PySem L2 Mini
abbrev Frag := PySem.W.Frag

mutual
/-- a value that never changes any more, over what is frozen -/
def Rep (K : Frag) (F : Hp) : D → V → Prop
  | .non, v => v = .non
  | .bl b, v => v = .bl b
  | .int i, v => v = .int i
  | .str s, v => v = .str ⟨s.toArray⟩
  | .tup ds, v => ∃ a vs, v = .ref a ∧ SqT K F a vs ∧ Reps K F ds vs
  | .vl ds, v => ∃ a vs, v = .ref a ∧ F a = some (.lst vs) ∧ Reps K F ds vs
  | .fl ds, v => ∃ a vs, v = .ref a ∧ SqL K F a vs ∧ Reps K F ds vs
def Reps (K : Frag) (F : Hp) : List D → List V → Prop
  | [], vs => vs = []
  | d :: ds, vs => ∃ v r, vs = v :: r ∧ Rep K F d v ∧ Reps K F ds r
end

theorem sqL_mono {K : Frag} {F F' : Hp} (h : Same F F') {a xs} (q : SqL K F a xs) : SqL K F' a xs := h.seq q
theorem sqT_mono {K : Frag} {F F' : Hp} (h : Same F F') {a xs} (q : SqT K F a xs) : SqT K F' a xs := by
  rcases q with (q | ⟨o, q⟩) | q
  · exact .inl (.inl (h _ _ q))
  · exact .inl (.inr ⟨o, h _ _ q⟩)
  · exact .inr q
mutual
theorem Rep.mono {K : Frag} {F F' : Hp} (h : Same F F') : ∀ (d : D) {v : V}, Rep K F d v → Rep K F' d v
  | .non, _, q => q
  | .bl _, _, q => q
  | .int _, _, q => q
  | .str _, _, q => q
  | .tup ds, _, ⟨a, vs, e, s, r⟩ => ⟨a, vs, e, sqT_mono h s, Reps.mono h ds r⟩
  | .vl ds, _, ⟨a, vs, e, s, r⟩ => ⟨a, vs, e, h _ _ s, Reps.mono h ds r⟩
  | .fl ds, _, ⟨a, vs, e, s, r⟩ => ⟨a, vs, e, sqL_mono h s, Reps.mono h ds r⟩
theorem Reps.mono {K : Frag} {F F' : Hp} (h : Same F F') : ∀ (ds : List D) {vs : List V}, Reps K F ds vs → Reps K F' ds vs
  | [], _, q => q
  | d :: ds, _, ⟨v, r, e, p, q⟩ => ⟨v, r, e, Rep.mono h d p, Reps.mono h ds q⟩
end
theorem Reps.length {K : Frag} {F : Hp} : ∀ {ds : List D} {vs : List V}, Reps K F ds vs → ds.length = vs.length
  | [], _, q => by rw [show _ = [] from q]; rfl
  | d :: ds, _, ⟨v, r, e, p, q⟩ => by rw [e, List.length_cons, List.length_cons, Reps.length q]
theorem Reps.get {K : Frag} {F : Hp} : ∀ {ds : List D} {vs : List V} {i : Nat} {d : D}, Reps K F ds vs → ds[i]? = some d → ∃ v, vs[i]? = some v ∧ Rep K F d v
  | [], _, _, _, _, h => by simp at h
  | x :: ds, _, 0, d, ⟨v, r, e, p, q⟩, h => by
    simp at h; subst h; subst e
    exact ⟨v, rfl, p⟩
  | x :: ds, _, i + 1, d, ⟨v, r, e, p, q⟩, h => by
    subst e
    obtain ⟨w, h1, h2⟩ := Reps.get (i := i) q (by simpa using h)
    exact ⟨w, by simpa using h1, h2⟩
theorem Reps.getV {K : Frag} {F : Hp} {ds : List D} {vs : List V} {i : Nat} {v : V} (h : Reps K F ds vs) (e : vs[i]? = some v) : ∃ d, ds[i]? = some d ∧ Rep K F d v := by
  obtain ⟨hi, _⟩ := List.getElem?_eq_some_iff.mp e
  have hl := h.length
  obtain ⟨w, h1, h2⟩ := h.get (i := i) (List.getElem?_eq_getElem (by omega))
  rw [e] at h1; cases h1
  exact ⟨_, List.getElem?_eq_getElem (by omega), h2⟩
theorem Reps.app {K : Frag} {F : Hp} : ∀ {a b : List D} {vs ws : List V}, Reps K F a vs → Reps K F b ws → Reps K F (a ++ b) (vs ++ ws)
  | [], _, _, _, q, r => by rw [show _ = [] from q]; exact r
  | d :: ds, _, _, _, ⟨v, r, e, p, q⟩, s => by rw [e]; exact ⟨v, _, rfl, p, Reps.app q s⟩
theorem Reps.one {K : Frag} {F : Hp} {d : D} {v : V} (h : Rep K F d v) : Reps K F [d] [v] := ⟨v, [], rfl, h, rfl⟩
theorem Reps.set {K : Frag} {F : Hp} {d : D} {v : V} (p : Rep K F d v) : ∀ {a : List D} {vs : List V} (i : Nat), Reps K F a vs → Reps K F (a.set i d) (vs.set i v)
  | [], _, _, q => by rw [show _ = [] from q]; rfl
  | x :: ds, _, 0, ⟨w, r, e, _, q⟩ => by rw [e]; exact ⟨v, r, rfl, p, q⟩
  | x :: ds, _, i + 1, ⟨w, r, e, pw, q⟩ => by rw [e]; exact ⟨w, _, rfl, pw, Reps.set p i q⟩
theorem Reps.take {K : Frag} {F : Hp} : ∀ {a : List D} {vs : List V} (n : Nat), Reps K F a vs → Reps K F (a.take n) (vs.take n)
  | _, _, 0, _ => by simp only [List.take_zero]; rfl
  | [], _, _ + 1, q => by rw [show _ = [] from q]; rfl
  | x :: ds, _, n + 1, ⟨w, r, e, pw, q⟩ => by rw [e]; exact ⟨w, _, rfl, pw, Reps.take n q⟩
theorem Reps.drop {K : Frag} {F : Hp} : ∀ {a : List D} {vs : List V} (n : Nat), Reps K F a vs → Reps K F (a.drop n) (vs.drop n)
  | _, _, 0, q => by simpa only [List.drop_zero] using q
  | [], _, _ + 1, q => by rw [show _ = [] from q]; rfl
  | x :: ds, _, n + 1, ⟨w, r, e, pw, q⟩ => by rw [e]; exact Reps.drop n q
theorem Reps.rev {K : Frag} {F : Hp} : ∀ {a : List D} {vs : List V}, Reps K F a vs → Reps K F a.reverse vs.reverse
  | [], _, q => by rw [show _ = [] from q]; rfl
  | x :: ds, _, ⟨w, r, e, pw, q⟩ => by
    rw [e, List.reverse_cons, List.reverse_cons]
    exact Reps.app (Reps.rev q) (.one pw)
theorem Reps.erase {K : Frag} {F : Hp} : ∀ {a : List D} {vs : List V} (n : Nat), Reps K F a vs → Reps K F (a.eraseIdx n) (vs.eraseIdx n)
  | [], _, _, q => by rw [show _ = [] from q]; rfl
  | x :: ds, _, 0, ⟨w, r, e, pw, q⟩ => by rw [e]; exact q
  | x :: ds, _, n + 1, ⟨w, r, e, pw, q⟩ => by rw [e]; exact ⟨w, _, rfl, pw, Reps.erase n q⟩
theorem Reps.rep {K : Frag} {F : Hp} {a : List D} {vs : List V} (q : Reps K F a vs) : ∀ (n : Nat), Reps K F (List.replicate n a).flatten (List.replicate n vs).flatten
  | 0 => rfl
  | n + 1 => by rw [List.replicate_succ, List.replicate_succ, List.flatten_cons, List.flatten_cons]; exact Reps.app q (Reps.rep q n)
theorem Reps.dropLast {K : Frag} {F : Hp} {a : List D} {vs : List V} (q : Reps K F a vs) : Reps K F a.dropLast vs.dropLast := by
  rw [List.dropLast_eq_take, List.dropLast_eq_take, q.length]
  exact q.take _

/-! ### names -/
/-- the list of a slot's own stands at a -/
def OwnS (env : Mini.Env) (σ : St) (i : Nat) (a : Addr) : Prop := (∃ xs, Mini.get env i = .cell xs ∨ Mini.get env i = .lock xs) ∧ σ[i]? = some (some (.ref a))
/-- .. and may be changed -/
def CellS (env : Mini.Env) (σ : St) (i : Nat) (a : Addr) : Prop := (∃ xs, Mini.get env i = .cell xs) ∧ σ[i]? = some (some (.ref a))
theorem CellS.own {env : Mini.Env} {σ : St} {i : Nat} {a : Addr} (h : CellS env σ i a) : OwnS env σ i a := ⟨let ⟨xs, e⟩ := h.1; ⟨xs, .inl e⟩, h.2⟩

/-- what a slot holds -/
def SlotOk (K : Frag) (F H : Hp) (v : Option (Option V)) : B → Prop
  | .no => True
  | .val d => ∃ x, v = some (some x) ∧ Rep K F d x
  | .cell ds => ∃ a vs, v = some (some (.ref a)) ∧ F a = none ∧ H a = some (.lst vs) ∧ Reps K F ds vs
  | .lock ds => ∃ a vs, v = some (some (.ref a)) ∧ F a = none ∧ H a = some (.lst vs) ∧ Reps K F ds vs
/-- the names as they stand; F: what is frozen -/
structure RE (K : Frag) (F H : Hp) (env : Mini.Env) (σ : St) : Prop where
  sub : Same F H
  len : env.length = σ.length
  slot : ∀ i, SlotOk K F H σ[i]? (Mini.get env i)
  dis : ∀ i j a, OwnS env σ i a → OwnS env σ j a → i = j
/-- from a state to a later one -/
structure Ext (env : Mini.Env) (σ : St) (F H : Hp) (env' : Mini.Env) (σ' : St) (F' H' : Hp) : Prop where
  mono : Same F F'
  keep : ∀ a o, H a = some o → (∀ i, ¬ CellS env σ i a) → H' a = some o
  live : ∀ a o, H a = some o → ∃ o', H' a = some o'
  fnew : ∀ a o, F' a = some o → F a = some o ∨ H a = none ∨ ∃ i, CellS env σ i a
  cnew : ∀ i a, CellS env' σ' i a → CellS env σ i a ∨ H a = none
  onew : ∀ i a, OwnS env' σ' i a → OwnS env σ i a ∨ H a = none
theorem Ext.refl {env : Mini.Env} {σ : St} {F H : Hp} : Ext env σ F H env σ F H :=
  ⟨.refl _, fun _ _ h _ => h, fun _ o h => ⟨o, h⟩, fun _ _ h => .inl h, fun _ _ h => .inl h, fun _ _ h => .inl h⟩
theorem Ext.free {env env' : Mini.Env} {σ σ' : St} {F H F' H' : Hp} (x : Ext env σ F H env' σ' F' H') {a : Addr} (h : H' a = none) : H a = none := by
  cases q : H a with
  | none => rfl
  | some o =>
    obtain ⟨o', e⟩ := x.live a o q
    rw [h] at e; cases e
theorem Ext.trans {env env1 env2 : Mini.Env} {σ σ1 σ2 : St} {F H F1 H1 F2 H2 : Hp} (x : Ext env σ F H env1 σ1 F1 H1) (y : Ext env1 σ1 F1 H1 env2 σ2 F2 H2) : Ext env σ F H env2 σ2 F2 H2 where
  mono := x.mono.trans y.mono
  keep := fun a o h n => y.keep a o (x.keep a o h n) fun i c => by
    rcases x.cnew i a c with c | c
    · exact n i c
    · rw [h] at c; cases c
  live := fun a o h => by
    obtain ⟨o', e⟩ := x.live a o h
    exact y.live a o' e
  fnew := fun a o h => by
    rcases y.fnew a o h with h | h | ⟨i, h⟩
    · exact x.fnew a o h
    · exact .inr (.inl (x.free h))
    · rcases x.cnew i a h with h | h
      · exact .inr (.inr ⟨i, h⟩)
      · exact .inr (.inl h)
  cnew := fun i a h => by
    rcases y.cnew i a h with h | h
    · exact x.cnew i a h
    · exact .inr (x.free h)
  onew := fun i a h => by
    rcases y.onew i a h with h | h
    · exact x.onew i a h
    · exact .inr (x.free h)
/-- an expression's result: H0 is the heap ahead of it -/
def RR (K : Frag) (H0 F H : Hp) (env : Mini.Env) (σ : St) (v : V) : RV → Prop
  | .val d => Rep K F d v
  | .own ds => ∃ a vs, v = .ref a ∧ H0 a = none ∧ F a = none ∧ H a = some (.lst vs) ∧ Reps K F ds vs ∧ ∀ i, ¬ OwnS env σ i a
  | .ref i => σ[i]? = some (some v)
/-- what may be read: the object itself stands in H, its items are frozen -/
def RdD (K : Frag) (F H : Hp) (v : V) : D → Prop
  | .vl ds => ∃ a vs, v = .ref a ∧ H a = some (.lst vs) ∧ Reps K F ds vs
  | d => Rep K F d v
theorem RdD.of {K : Frag} {F H : Hp} (s : Same F H) {v : V} {d : D} (h : Rep K F d v) : RdD K F H v d := by
  cases d with
  | vl ds =>
    obtain ⟨a, vs, e, q, r⟩ := h
    exact ⟨a, vs, e, s _ _ q, r⟩
  | _ => exact h
theorem RdD.rep {K : Frag} {F H : Hp} (s : Same F H) {v : V} {d : D} (h : RdD K F H v d) : Rep K H d v := by
  cases d with
  | vl ds =>
    obtain ⟨a, vs, e, q, r⟩ := h
    exact ⟨a, vs, e, q, Reps.mono s _ r⟩
  | _ => exact Rep.mono s _ h

section
variable {K : Frag} {F H H0 : Hp} {env env' : Mini.Env} {σ : St} {v : V}
theorem RE.val (h : RE K F H env σ) {i : Nat} {d : D} (e : Mini.get env i = .val d) : ∃ x, σ[i]? = some (some x) ∧ Rep K F d x := by
  have := h.slot i; rw [e] at this; exact this
theorem RE.cell (h : RE K F H env σ) {i : Nat} {ds : List D} (e : Mini.get env i = .cell ds) : ∃ a vs, σ[i]? = some (some (.ref a)) ∧ F a = none ∧ H a = some (.lst vs) ∧ Reps K F ds vs := by
  have := h.slot i; rw [e] at this; exact this
theorem RE.lock (h : RE K F H env σ) {i : Nat} {ds : List D} (e : Mini.get env i = .lock ds) : ∃ a vs, σ[i]? = some (some (.ref a)) ∧ F a = none ∧ H a = some (.lst vs) ∧ Reps K F ds vs := by
  have := h.slot i; rw [e] at this; exact this
/-- reading -/
theorem pk_ok (h : RE K F H env σ) {r : RV} {d : D} (q : RR K H0 F H env' σ v r) (e : pk env r = some d) : RdD K F H v d := by
  cases r with
  | val x => cases e; exact .of h.sub q
  | own xs =>
    cases e
    obtain ⟨a, vs, e1, _, _, e2, e3, _⟩ := q
    exact ⟨a, vs, e1, e2, e3⟩
  | ref i =>
    simp only [pk] at e
    have q : σ[i]? = some (some v) := q
    split at e
    · rename_i x hg
      cases e
      obtain ⟨x', h1, h2⟩ := h.val hg
      rw [q] at h1; cases h1
      exact .of h.sub h2
    · rename_i x hg
      cases e
      obtain ⟨a, vs, h1, h2, h3, h4⟩ := h.cell hg
      rw [q] at h1; cases h1
      exact ⟨a, vs, rfl, h3, h4⟩
    · rename_i x hg
      cases e
      obtain ⟨a, vs, h1, h2, h3, h4⟩ := h.lock hg
      rw [q] at h1; cases h1
      exact ⟨a, vs, rfl, h3, h4⟩
    · cases e
end

theorem get_set {env : Mini.Env} {i : Nat} {b : B} (j : Nat) : Mini.get (env.set i b) j = if i = j ∧ i < env.length then b else Mini.get env j := by
  unfold Mini.get
  rw [List.getD_eq_getElem?_getD, List.getD_eq_getElem?_getD, List.getElem?_set]
  by_cases h : i = j
  · subst h
    by_cases hl : i < env.length
    · simp [hl]
    · simp [hl]
  · simp [h]
theorem get_lt {env : Mini.Env} {i : Nat} (h : Mini.get env i ≠ .no) : i < env.length := by
  apply Decidable.byContradiction
  intro q
  exact h (by unfold Mini.get; rw [List.getD_eq_getElem?_getD, List.getElem?_eq_none (by omega)]; rfl)
end MS

/-! What Mini's moves over names do to the heap's picture. -/
namespace MS
open PySem L2 Mini
section
variable {K : Frag} {F H F' H' F0 H0 F1 H1 F2 H2 : Hp} {env env' env0 env1 env2 : Mini.Env} {σ σ' σ0 σ1 σ2 : St} {v : V}

theorem RE.own (h : RE K F H env σ) {i : Nat} {a : Addr} (o : OwnS env σ i a) : F a = none ∧ ∃ vs, H a = some (.lst vs) := by
  obtain ⟨⟨xs, e | e⟩, s⟩ := o
  · obtain ⟨a', vs, h1, h2, h3, _⟩ := h.cell e
    rw [s] at h1; cases h1
    exact ⟨h2, vs, h3⟩
  · obtain ⟨a', vs, h1, h2, h3, _⟩ := h.lock e
    rw [s] at h1; cases h1
    exact ⟨h2, vs, h3⟩
theorem RE.to (h : RE K F H env σ) (m : Same F F') (s : Same F' H') (k : ∀ i a, OwnS env σ i a → F' a = none ∧ H' a = H a) : RE K F' H' env σ := by
  refine ⟨s, h.len, fun i => ?_, h.dis⟩
  have q := h.slot i
  generalize hb : Mini.get env i = b at q
  cases b with
  | no => trivial
  | val d => obtain ⟨x, e, r⟩ := q; exact ⟨x, e, Rep.mono m d r⟩
  | cell ds =>
    obtain ⟨a, vs, e, h1, h2, r⟩ := q
    obtain ⟨k1, k2⟩ := k i a ⟨⟨ds, .inl hb⟩, e⟩
    exact ⟨a, vs, e, k1, k2.trans h2, Reps.mono m ds r⟩
  | lock ds =>
    obtain ⟨a, vs, e, h1, h2, r⟩ := q
    obtain ⟨k1, k2⟩ := k i a ⟨⟨ds, .inr hb⟩, e⟩
    exact ⟨a, vs, e, k1, k2.trans h2, Reps.mono m ds r⟩
/-- a new thing at p -/
theorem RE.newF (h : RE K F H env σ) {p : Addr} (o : HO) (hp : H p = none) : RE K (upd F p o) (upd H p o) env σ := by
  have fp : F p = none := by
    cases q : F p with
    | none => rfl
    | some u => rw [h.sub _ _ q] at hp; cases hp
  refine h.to (fun b u e => by rw [upd_ne (ne_of_none e fp)]; exact e) (fun b u e => ?_) fun i a ow => ?_
  · by_cases hb : b = p
    · subst hb; rw [upd_same] at e ⊢; exact e
    · rw [upd_ne hb] at e ⊢; exact h.sub _ _ e
  · obtain ⟨h1, vs, h2⟩ := h.own ow
    have ne : a ≠ p := ne_of_none h2 hp
    rw [upd_ne ne, upd_ne ne]
    exact ⟨h1, rfl⟩
theorem RE.newH (h : RE K F H env σ) {p : Addr} (o : HO) (hp : H p = none) : RE K F (upd H p o) env σ := by
  refine h.to (.refl _) (fun b u e => ?_) fun i a ow => ?_
  · have := h.sub _ _ e
    rw [upd_ne (ne_of_none this hp)]; exact this
  · obtain ⟨h1, vs, h2⟩ := h.own ow
    rw [upd_ne (ne_of_none h2 hp)]
    exact ⟨h1, rfl⟩
theorem fnone (s : Same F H) {p : Addr} (hp : H p = none) : F p = none := by
  cases q : F p with
  | none => rfl
  | some u => rw [s _ _ q] at hp; cases hp
theorem Ext.newF (s : Same F H) {p : Addr} (o : HO) (hp : H p = none) : Ext env σ F H env σ (upd F p o) (upd H p o) where
  mono := fun b u e => by rw [upd_ne (ne_of_none e (fnone s hp))]; exact e
  keep := fun a u e _ => by rw [upd_ne (ne_of_none e hp)]; exact e
  live := fun a u e => ⟨u, by rw [upd_ne (ne_of_none e hp)]; exact e⟩
  fnew := fun a u e => by
    by_cases ha : a = p
    · exact .inr (.inl (by rw [ha]; exact hp))
    · rw [upd_ne ha] at e; exact .inl e
  cnew := fun _ _ h => .inl h
  onew := fun _ _ h => .inl h
theorem Ext.newH {p : Addr} (o : HO) (hp : H p = none) : Ext env σ F H env σ F (upd H p o) where
  mono := .refl _
  keep := fun a u e _ => by rw [upd_ne (ne_of_none e hp)]; exact e
  live := fun a u e => ⟨u, by rw [upd_ne (ne_of_none e hp)]; exact e⟩
  fnew := fun a u e => .inl e
  cnew := fun _ _ h => .inl h
  onew := fun _ _ h => .inl h
theorem upd_self {H : Hp} {a : Addr} {o : HO} (h : H a = some o) : upd H a o = H := by
  funext b; unfold upd; split
  · rename_i e; rw [e, h]
  · rfl
/-- a new list that no name holds is frozen -/
theorem own_fz (h : RE K F H env σ) {a : Addr} {vs : List V} (hF : F a = none) (hH : H a = some (.lst vs)) (no : ∀ i, ¬ OwnS env σ i a) : RE K (upd F a (.lst vs)) H env σ := by
  refine h.to (fun b u e => by rw [upd_ne (ne_of_none e hF)]; exact e) (fun b u e => ?_) fun i b ow => ?_
  · by_cases hb : b = a
    · subst hb; rw [upd_same] at e; cases e; exact hH
    · rw [upd_ne hb] at e; exact h.sub _ _ e
  · have ne : b ≠ a := fun z => no i (by rw [← z]; exact ow)
    rw [upd_ne ne]
    exact ⟨(h.own ow).1, rfl⟩
theorem rep_vl {a : Addr} {vs : List V} {ds : List D} (hF : F a = none) (r : Reps K F ds vs) : Rep K (upd F a (.lst vs)) (.vl ds) (.ref a) :=
  ⟨a, vs, rfl, upd_same, Reps.mono (fun b u e => by rw [upd_ne (ne_of_none e hF)]; exact e) _ r⟩
theorem set_len {i : Nat} {b : B} : (env.set i b).length = env.length := List.length_set
/-- as a value for good -/
theorem fz_ok (h : RE K F H env σ) (x : Ext env0 σ0 F0 H0 env σ F H) {r : RV} {d : D} (q : RR K H0 F H env σ v r) (e : fz env r = some (d, env')) :
    ∃ F', RE K F' H env' σ ∧ Ext env0 σ0 F0 H0 env' σ F' H ∧ Rep K F' d v := by
  cases r with
  | val y => cases e; exact ⟨F, h, x, q⟩
  | own xs =>
    cases e
    obtain ⟨a, vs, rfl, e0, hF, hH, r, no⟩ := q
    refine ⟨upd F a (.lst vs), own_fz h hF hH no, ⟨fun b u z => ?_, x.keep, x.live, fun b u z => ?_, x.cnew, x.onew⟩, rep_vl hF r⟩
    · have := x.mono _ _ z
      rw [upd_ne (ne_of_none this hF)]; exact this
    · by_cases hb : b = a
      · exact .inr (.inl (by rw [hb]; exact e0))
      · rw [upd_ne hb] at z; exact x.fnew _ _ z
  | ref i =>
    have q : σ[i]? = some (some v) := q
    simp only [fz] at e
    split at e
    · rename_i y hg
      cases e
      obtain ⟨y', h1, h2⟩ := h.val hg
      rw [q] at h1; cases h1
      exact ⟨F, h, x, h2⟩
    · rename_i xs hg
      cases e
      obtain ⟨a, vs, h1, hF, hH, r⟩ := h.cell hg
      rw [q] at h1; cases h1
      have hl : i < env.length := get_lt (by rw [hg]; exact fun z => nomatch z)
      have ow : ∀ j b, OwnS (env.set i (.val (.vl xs))) σ j b → OwnS env σ j b ∧ b ≠ a := fun j b ⟨⟨ys, z⟩, s⟩ => by
        rw [get_set] at z
        by_cases hij : i = j
        · rw [if_pos ⟨hij, hl⟩] at z
          rcases z with z | z <;> cases z
        · rw [if_neg (fun w => hij w.1)] at z
          have o1 : OwnS env σ j b := ⟨⟨ys, z⟩, s⟩
          refine ⟨o1, fun w => hij ?_⟩
          rw [w] at o1
          exact h.dis i j a ⟨⟨xs, .inl hg⟩, q⟩ o1
      have hce : CellS env σ i a := ⟨⟨xs, hg⟩, q⟩
      have m : Same F (upd F a (.lst vs)) := fun b u z => by rw [upd_ne (ne_of_none z hF)]; exact z
      refine ⟨upd F a (.lst vs), ⟨fun b u z => ?_, by rw [set_len]; exact h.len, fun j => ?_, fun i' j b o1 o2 => h.dis i' j b (ow _ _ o1).1 (ow _ _ o2).1⟩,
        ⟨x.mono.trans m, x.keep, x.live, fun b u z => ?_, fun j b c => ?_, fun j b o => x.onew j b (ow j b o).1⟩, rep_vl hF r⟩
      · by_cases hb : b = a
        · subst hb; rw [upd_same] at z; cases z; exact hH
        · rw [upd_ne hb] at z; exact h.sub _ _ z
      · rw [get_set]
        by_cases hij : i = j
        · subst hij
          rw [if_pos ⟨rfl, hl⟩]
          exact ⟨.ref a, q, rep_vl hF r⟩
        · rw [if_neg (fun w => hij w.1)]
          have s := h.slot j
          generalize hb : Mini.get env j = b at s
          cases b with
          | no => trivial
          | val d => obtain ⟨y, e1, r1⟩ := s; exact ⟨y, e1, Rep.mono m d r1⟩
          | cell ds =>
            obtain ⟨b, ws, e1, f1, g1, r1⟩ := s
            have ne : b ≠ a := fun w => hij (h.dis i j a ⟨⟨xs, .inl hg⟩, q⟩ ⟨⟨ds, .inl hb⟩, by rw [← w]; exact e1⟩)
            exact ⟨b, ws, e1, by rw [upd_ne ne]; exact f1, g1, Reps.mono m ds r1⟩
          | lock ds =>
            obtain ⟨b, ws, e1, f1, g1, r1⟩ := s
            have ne : b ≠ a := fun w => hij (h.dis i j a ⟨⟨xs, .inl hg⟩, q⟩ ⟨⟨ds, .inr hb⟩, by rw [← w]; exact e1⟩)
            exact ⟨b, ws, e1, by rw [upd_ne ne]; exact f1, g1, Reps.mono m ds r1⟩
      · by_cases hb : b = a
        · subst hb
          rcases x.cnew i b hce with c | c
          · exact .inr (.inr ⟨i, c⟩)
          · exact .inr (.inl c)
        · rw [upd_ne hb] at z; exact x.fnew _ _ z
      · refine x.cnew j b ?_
        obtain ⟨⟨ys, z⟩, s⟩ := c
        rw [get_set] at z
        by_cases hij : i = j
        · rw [if_pos ⟨hij, hl⟩] at z; cases z
        · rw [if_neg (fun w => hij w.1)] at z
          exact ⟨⟨ys, z⟩, s⟩
    · cases e

theorem σset {σ : St} {i j : Nat} {x : Option V} : (σ.set i x)[j]? = if i = j then (if i < σ.length then some x else none) else σ[j]? := List.getElem?_set
/-- a value is stored -/
theorem RE.setVal (h : RE K F H env σ) {i : Nat} {d : D} (hi : i < env.length) (r : Rep K F d v) : RE K F H (env.set i (.val d)) (σ.set i (some v)) ∧ ∀ j a, OwnS (env.set i (.val d)) (σ.set i (some v)) j a → OwnS env σ j a ∧ (CellS (env.set i (.val d)) (σ.set i (some v)) j a → CellS env σ j a) := by
  have hl := h.len
  have ow : ∀ j a, OwnS (env.set i (.val d)) (σ.set i (some v)) j a → OwnS env σ j a ∧ (CellS (env.set i (.val d)) (σ.set i (some v)) j a → CellS env σ j a) := fun j a ⟨⟨ys, z⟩, s⟩ => by
    rw [get_set] at z
    rw [σset] at s
    by_cases hij : i = j
    · rw [if_pos ⟨hij, hi⟩] at z
      rcases z with z | z <;> cases z
    · rw [if_neg (fun w => hij w.1)] at z
      rw [if_neg hij] at s
      refine ⟨⟨⟨ys, z⟩, s⟩, fun ⟨⟨zs, c⟩, _⟩ => ⟨⟨zs, ?_⟩, s⟩⟩
      rw [get_set, if_neg (fun w => hij w.1)] at c
      exact c
  refine ⟨⟨h.sub, by rw [set_len, List.length_set]; exact h.len, fun j => ?_, fun i' j a o1 o2 => h.dis i' j a (ow _ _ o1).1 (ow _ _ o2).1⟩, ow⟩
  rw [get_set, σset]
  by_cases hij : i = j
  · rw [if_pos hij, if_pos (show i < σ.length by omega), if_pos (show i = j ∧ i < env.length from ⟨hij, hi⟩)]
    exact ⟨v, rfl, r⟩
  · rw [if_neg hij, if_neg (fun w : i = j ∧ i < env.length => hij w.1)]
    exact h.slot j
theorem Ext.setVal (h : RE K F H env σ) (x : Ext env0 σ0 F0 H0 env σ F H) {i : Nat} {d : D} (hi : i < env.length) (r : Rep K F d v) : Ext env0 σ0 F0 H0 (env.set i (.val d)) (σ.set i (some v)) F H :=
  have q := (h.setVal hi r).2
  ⟨x.mono, x.keep, x.live, x.fnew, fun j a c => x.cnew j a ((q j a c.own).2 c), fun j a o => x.onew j a (q j a o).1⟩
/-- a list is stored for a name's own -/
theorem RE.setCell (h : RE K F H env σ) {i : Nat} {a : Addr} {ds : List D} {vs : List V} (hi : i < env.length) (hF : F a = none) (hH : H a = some (.lst vs)) (r : Reps K F ds vs) (no : ∀ j, ¬ OwnS env σ j a) :
    RE K F H (env.set i (.cell ds)) (σ.set i (some (.ref a))) ∧ ∀ j b, OwnS (env.set i (.cell ds)) (σ.set i (some (.ref a))) j b → (OwnS env σ j b ∧ (CellS (env.set i (.cell ds)) (σ.set i (some (.ref a))) j b → CellS env σ j b)) ∨ b = a := by
  have hl := h.len
  have ow : ∀ j b, OwnS (env.set i (.cell ds)) (σ.set i (some (.ref a))) j b → (OwnS env σ j b ∧ i ≠ j ∧ (CellS (env.set i (.cell ds)) (σ.set i (some (.ref a))) j b → CellS env σ j b)) ∨ (b = a ∧ i = j) := fun j b ⟨⟨ys, z⟩, s⟩ => by
    rw [get_set] at z
    rw [σset] at s
    by_cases hij : i = j
    · rw [if_pos hij, if_pos (by omega)] at s
      cases s
      exact .inr ⟨rfl, hij⟩
    · rw [if_neg (fun w => hij w.1)] at z
      rw [if_neg hij] at s
      refine .inl ⟨⟨⟨ys, z⟩, s⟩, hij, fun ⟨⟨zs, c⟩, _⟩ => ⟨⟨zs, ?_⟩, s⟩⟩
      rw [get_set, if_neg (fun w => hij w.1)] at c
      exact c
  refine ⟨⟨h.sub, by rw [set_len, List.length_set]; exact h.len, fun j => ?_, fun i' j b o1 o2 => ?_⟩, fun j b o => ?_⟩
  · rw [get_set, σset]
    by_cases hij : i = j
    · rw [if_pos hij, if_pos (show i < σ.length by omega), if_pos (show i = j ∧ i < env.length from ⟨hij, hi⟩)]
      exact ⟨a, vs, rfl, hF, hH, r⟩
    · rw [if_neg hij, if_neg (fun w : i = j ∧ i < env.length => hij w.1)]
      exact h.slot j
  · rcases ow _ _ o1 with ⟨p1, n1, _⟩ | ⟨p1, n1⟩
    · rcases ow _ _ o2 with ⟨p2, n2, _⟩ | ⟨p2, n2⟩
      · exact h.dis i' j b p1 p2
      · subst p2; exact absurd p1 (no i')
    · rcases ow _ _ o2 with ⟨p2, n2, _⟩ | ⟨p2, n2⟩
      · subst p1; exact absurd p2 (no j)
      · rw [← n1, ← n2]
  · rcases ow j b o with ⟨p, _, q⟩ | ⟨p, _⟩
    · exact .inl ⟨p, q⟩
    · exact .inr p
theorem bindR_ok (h : RE K F H env σ) (x : Ext env0 σ0 F0 H0 env σ F H) {i : Nat} {r : RV} (hi : i < env.length) (q : RR K H0 F H env σ v r) (e : bindR env i r = some env') :
    ∃ F', RE K F' H env' (σ.set i (some v)) ∧ Ext env0 σ0 F0 H0 env' (σ.set i (some v)) F' H := by
  cases r with
  | val d => cases e; exact ⟨F, (h.setVal hi q).1, x.setVal h hi q⟩
  | own ds =>
    cases e
    obtain ⟨a, vs, rfl, e0, hF, hH, r, no⟩ := q
    obtain ⟨h', w⟩ := h.setCell hi hF hH r no
    refine ⟨F, h', x.mono, x.keep, x.live, x.fnew, fun j b c => ?_, fun j b o => ?_⟩
    · rcases w j b c.own with ⟨_, p⟩ | p
      · exact x.cnew j b (p c)
      · exact .inr (by rw [p]; exact e0)
    · rcases w j b o with ⟨p, _⟩ | p
      · exact x.onew j b p
      · exact .inr (by rw [p]; exact e0)
  | ref j =>
    simp only [bindR, Option.map_eq_some_iff] at e
    obtain ⟨⟨d, env1⟩, e1, e2⟩ := e
    subst e2
    obtain ⟨F1, h1, x1, r1⟩ := fz_ok h x q e1
    have hi1 : i < env1.length := by
      have a1 := h.len; have a2 := h1.len; omega
    exact ⟨F1, (h1.setVal hi1 r1).1, x1.setVal h1 hi1 r1⟩
theorem setAll_ok : ∀ {is : List Nat} {ds : List D} {vs : List V} {env env' : Mini.Env} {σ : St}, RE K F H env σ → Ext env0 σ0 F0 H0 env σ F H → (∀ i ∈ is, i < env.length) → Reps K F ds vs → setAll env is ds = some env' →
    ∃ σ', RE K F H env' σ' ∧ Ext env0 σ0 F0 H0 env' σ' F H ∧ is.length = vs.length ∧ σ' = (is.zip vs).foldl (fun s p => s.set p.1 (some p.2)) σ
  | [], [], vs, env, env', σ, h, x, _, r, e => by
    cases e
    rw [show vs = [] from r]
    exact ⟨σ, h, x, rfl, rfl⟩
  | [], d :: ds, _, _, _, _, _, _, _, _, e => nomatch e
  | i :: is, [], _, _, _, _, _, _, _, _, e => nomatch e
  | i :: is, d :: ds, vs, env, env', σ, h, x, hi, rr, e => by
    obtain ⟨v, r, rfl, p, q⟩ := rr
    have hi' := hi i List.mem_cons_self
    obtain ⟨σ', h1, x1, l1, e1⟩ := setAll_ok (is := is) (ds := ds) (vs := r) (h.setVal hi' p).1 (x.setVal h hi' p) (fun j hj => by rw [set_len]; exact hi j (List.mem_cons_of_mem _ hj)) q e
    exact ⟨σ', h1, x1, by simp [l1], by rw [e1]; rfl⟩
/-- forgetting -/
theorem RE.forget (h : RE K F H env σ) (i : Nat) : RE K F H (env.set i .no) σ ∧ ∀ j a, OwnS (env.set i .no) σ j a → OwnS env σ j a ∧ (CellS (env.set i .no) σ j a → CellS env σ j a) := by
  have ow : ∀ j a, OwnS (env.set i .no) σ j a → OwnS env σ j a ∧ (CellS (env.set i .no) σ j a → CellS env σ j a) := fun j a ⟨⟨ys, z⟩, s⟩ => by
    rw [get_set] at z
    by_cases hij : i = j ∧ i < env.length
    · rw [if_pos hij] at z
      rcases z with z | z <;> cases z
    · rw [if_neg hij] at z
      refine ⟨⟨⟨ys, z⟩, s⟩, fun ⟨⟨zs, c⟩, _⟩ => ⟨⟨zs, ?_⟩, s⟩⟩
      rw [get_set, if_neg hij] at c
      exact c
  refine ⟨⟨h.sub, by rw [set_len]; exact h.len, fun j => ?_, fun i' j a o1 o2 => h.dis i' j a (ow _ _ o1).1 (ow _ _ o2).1⟩, ow⟩
  rw [get_set]
  by_cases hij : i = j ∧ i < env.length
  · rw [if_pos hij]; trivial
  · rw [if_neg hij]; exact h.slot j
theorem wipe_ok : ∀ {is : List Nat} {env : Mini.Env}, RE K F H env σ → Ext env0 σ0 F0 H0 env σ F H → RE K F H (Mini.wipe env is) σ ∧ Ext env0 σ0 F0 H0 (Mini.wipe env is) σ F H
  | [], _, h, x => ⟨h, x⟩
  | i :: is, env, h, x => by
    obtain ⟨h1, w⟩ := h.forget i
    exact wipe_ok (is := is) h1 ⟨x.mono, x.keep, x.live, x.fnew, fun j a c => x.cnew j a ((w j a c.own).2 c), fun j a o => x.onew j a (w j a o).1⟩
theorem get_wipe {j : Nat} : ∀ {is : List Nat} {env : Mini.Env}, Mini.get (Mini.wipe env is) j = if j ∈ is then .no else Mini.get env j
  | [], _ => by simp [Mini.wipe]
  | i :: is, env => by
    rw [Mini.wipe, get_wipe, get_set]
    by_cases h1 : j ∈ is
    · simp [h1]
    · by_cases h2 : j = i
      · subst h2
        simp only [h1, if_false, List.mem_cons, true_or, if_true, true_and]
        split
        · rfl
        · rename_i hl
          unfold Mini.get
          rw [List.getD_eq_getElem?_getD, List.getElem?_eq_none (by omega)]
          rfl
      · rw [if_neg h1, if_neg (fun w => h2 w.1.symm), if_neg (by simp [h1, h2])]
theorem wipe_length (env : Mini.Env) : ∀ is : List Nat, (Mini.wipe env is).length = env.length
  | [] => rfl
  | i :: is => by rw [Mini.wipe, wipe_length, set_len]
/-- a loop locks a name's list -/
theorem lock_ok (h : RE K F H env σ) (x : Ext env0 σ0 F0 H0 env σ F H) {i : Nat} {xs : List D} (hg : Mini.get env i = .cell xs) : RE K F H (env.set i (.lock xs)) σ ∧ Ext env0 σ0 F0 H0 (env.set i (.lock xs)) σ F H := by
  have hl : i < env.length := get_lt (by rw [hg]; exact fun z => nomatch z)
  have ow : ∀ j a, OwnS (env.set i (.lock xs)) σ j a → OwnS env σ j a ∧ (CellS (env.set i (.lock xs)) σ j a → CellS env σ j a) := fun j a ⟨⟨ys, z⟩, s⟩ => by
    rw [get_set] at z
    by_cases hij : i = j
    · subst hij
      rw [if_pos ⟨rfl, hl⟩] at z
      refine ⟨⟨⟨xs, .inl hg⟩, s⟩, fun ⟨⟨zs, c⟩, _⟩ => ⟨⟨xs, hg⟩, s⟩⟩
    · rw [if_neg (fun w => hij w.1)] at z
      refine ⟨⟨⟨ys, z⟩, s⟩, fun ⟨⟨zs, c⟩, _⟩ => ⟨⟨zs, ?_⟩, s⟩⟩
      rw [get_set, if_neg (fun w => hij w.1)] at c
      exact c
  refine ⟨⟨h.sub, by rw [set_len]; exact h.len, fun j => ?_, fun i' j a o1 o2 => h.dis i' j a (ow _ _ o1).1 (ow _ _ o2).1⟩, x.mono, x.keep, x.live, x.fnew, fun j a c => x.cnew j a ((ow j a c.own).2 c), fun j a o => x.onew j a (ow j a o).1⟩
  rw [get_set]
  by_cases hij : i = j
  · subst hij
    rw [if_pos ⟨rfl, hl⟩]
    exact h.cell hg
  · rw [if_neg (fun w => hij w.1)]; exact h.slot j
theorem unlock_ok (h : RE K F H env σ) (x : Ext env0 σ0 F0 H0 env σ F H) {lk : Option Nat} (hc : ∀ i, lk = some i → ∀ a, OwnS env0 σ0 i a → CellS env0 σ0 i a) : RE K F H (unlock env lk) σ ∧ Ext env0 σ0 F0 H0 (unlock env lk) σ F H := by
  cases lk with
  | none => exact ⟨h, x⟩
  | some i =>
    unfold unlock
    dsimp only
    split
    · rename_i xs hg
      have hl : i < env.length := get_lt (by rw [hg]; exact fun z => nomatch z)
      have ow : ∀ j a, OwnS (env.set i (.cell xs)) σ j a → OwnS env σ j a ∧ (i ≠ j → CellS (env.set i (.cell xs)) σ j a → CellS env σ j a) := fun j a ⟨⟨ys, z⟩, s⟩ => by
        rw [get_set] at z
        by_cases hij : i = j
        · subst hij
          exact ⟨⟨⟨xs, .inr hg⟩, s⟩, fun w => absurd rfl w⟩
        · rw [if_neg (fun w => hij w.1)] at z
          refine ⟨⟨⟨ys, z⟩, s⟩, fun _ ⟨⟨zs, c⟩, _⟩ => ⟨⟨zs, ?_⟩, s⟩⟩
          rw [get_set, if_neg (fun w => hij w.1)] at c
          exact c
      refine ⟨⟨h.sub, by rw [set_len]; exact h.len, fun j => ?_, fun i' j a o1 o2 => h.dis i' j a (ow _ _ o1).1 (ow _ _ o2).1⟩, x.mono, x.keep, x.live, x.fnew, fun j a c => ?_, fun j a o => x.onew j a (ow j a o).1⟩
      · rw [get_set]
        by_cases hij : i = j
        · subst hij
          rw [if_pos ⟨rfl, hl⟩]
          exact h.lock hg
        · rw [if_neg (fun w => hij w.1)]; exact h.slot j
      · by_cases hij : i = j
        · subst hij
          rcases x.onew i a (ow i a c.own).1 with o | o
          · exact .inl (hc i rfl a o)
          · exact .inr o
        · exact x.cnew j a ((ow j a c.own).2 hij c)
    · exact ⟨h, x⟩
/-- a name's own list is changed -/
theorem cell_put (h : RE K F H env σ) (x : Ext env0 σ0 F0 H0 env σ F H) {i : Nat} {a : Addr} {xs ys : List D} {ws : List V} (hg : Mini.get env i = .cell xs) (ha : σ[i]? = some (some (.ref a))) (r : Reps K F ys ws) :
    RE K F (upd H a (.lst ws)) (env.set i (.cell ys)) σ ∧ Ext env0 σ0 F0 H0 (env.set i (.cell ys)) σ F (upd H a (.lst ws)) := by
  have hl : i < env.length := get_lt (by rw [hg]; exact fun z => nomatch z)
  obtain ⟨a', vs, h1, hF, hH, _⟩ := h.cell hg
  rw [ha] at h1; cases h1
  have me : OwnS env σ i a := ⟨⟨xs, .inl hg⟩, ha⟩
  have mc : CellS env σ i a := ⟨⟨xs, hg⟩, ha⟩
  have ow : ∀ j b, OwnS (env.set i (.cell ys)) σ j b → OwnS env σ j b ∧ (CellS (env.set i (.cell ys)) σ j b → CellS env σ j b) := fun j b ⟨⟨zs, z⟩, s⟩ => by
    rw [get_set] at z
    by_cases hij : i = j
    · subst hij
      exact ⟨⟨⟨xs, .inl hg⟩, s⟩, fun _ => ⟨⟨xs, hg⟩, s⟩⟩
    · rw [if_neg (fun w => hij w.1)] at z
      refine ⟨⟨⟨zs, z⟩, s⟩, fun ⟨⟨us, c⟩, _⟩ => ⟨⟨us, ?_⟩, s⟩⟩
      rw [get_set, if_neg (fun w => hij w.1)] at c
      exact c
  have na : ∀ b u, F b = some u → b ≠ a := fun b u e => ne_of_none e hF
  refine ⟨⟨fun b u e => by rw [upd_ne (na b u e)]; exact h.sub _ _ e, by rw [set_len]; exact h.len, fun j => ?_, fun i' j b o1 o2 => h.dis i' j b (ow _ _ o1).1 (ow _ _ o2).1⟩, x.mono, fun b o e n => ?_, fun b o e => ?_, x.fnew, fun j b c => x.cnew j b ((ow j b c.own).2 c), fun j b o => x.onew j b (ow j b o).1⟩
  · rw [get_set]
    by_cases hij : i = j
    · subst hij
      rw [if_pos ⟨rfl, hl⟩]
      exact ⟨a, ws, ha, hF, upd_same, r⟩
    · rw [if_neg (fun w => hij w.1)]
      have s := h.slot j
      generalize hb : Mini.get env j = b at s
      cases b with
      | no => trivial
      | val d => exact s
      | cell ds =>
        obtain ⟨b, us, e1, f1, g1, r1⟩ := s
        have ne : b ≠ a := fun w => hij (h.dis i j a me ⟨⟨ds, .inl hb⟩, by rw [← w]; exact e1⟩)
        exact ⟨b, us, e1, f1, by rw [upd_ne ne]; exact g1, r1⟩
      | lock ds =>
        obtain ⟨b, us, e1, f1, g1, r1⟩ := s
        have ne : b ≠ a := fun w => hij (h.dis i j a me ⟨⟨ds, .inr hb⟩, by rw [← w]; exact e1⟩)
        exact ⟨b, us, e1, f1, by rw [upd_ne ne]; exact g1, r1⟩
  · have ne : b ≠ a := fun w => by
      rcases x.cnew i a mc with c | c
      · exact n i (by rw [w]; exact c)
      · rw [w, c] at e; cases e
    rw [upd_ne ne]; exact x.keep b o e n
  · by_cases hb : b = a
    · exact ⟨_, by rw [hb]; exact upd_same⟩
    · obtain ⟨o', q⟩ := x.live b o e
      exact ⟨o', by rw [upd_ne hb]; exact q⟩
end
end MS

/-! When a def's text is what a Mini term says. -/
namespace MS
open PySem L2 Mini

/-- N: a def's names by slot; FT: the defs by number; GT: the constants by number -/
structure Cfg where
  N : List Str
  FT : List Str
  GT : List Str
  gcd : Bool
def visB (sc : Scope) (x : Str) : Bool := match sc.names.lookup x with
  | some .local => true
  | some .cell => true
  | some .free => true
  | _ => false
def locB (sc : Scope) (x : Str) : Bool := match sc.names.lookup x with
  | some .local => true
  | some .cell => true
  | _ => false
def plainB (sc : Scope) (x : Str) : Bool := match sc.names.lookup x with
  | some .local => true
  | _ => false
def glB (sc : Scope) (x : Str) : Bool := match sc.names.lookup x with
  | some .globalImplicit => true
  | _ => false
def isAt (l : List Str) (i : Nat) (x : Str) : Bool := match l[i]? with
  | some y => decide (y = x)
  | none => false
def bopB : Bop → Operator → Bool
  | .add, .Add => true
  | .sub, .Sub => true
  | .mul, .Mult => true
  | .fdiv, .FloorDiv => true
  | .mod, .Mod => true
  | .pow, .Pow => true
  | _, _ => false
def copB : Cop → CmpOp → Bool
  | .eq, .Eq => true
  | .ne, .NotEq => true
  | .lt, .Lt => true
  | .le, .LtE => true
  | .gt, .Gt => true
  | .ge, .GtE => true
  | .isin, .In => true
  | .notin, .NotIn => true
  | _, _ => false
/-- the built-in's name, and the second argument of isinstance -/
def biN : Bi → Str × Option Str
  | .len => ("len", none)
  | .sum => ("sum", none)
  | .min1 => ("min", none)
  | .max1 => ("max", none)
  | .min2 => ("min", none)
  | .max2 => ("max", none)
  | .abs => ("abs", none)
  | .int => ("int", none)
  | .tuple => ("tuple", none)
  | .list => ("list", none)
  | .sorted => ("sorted", none)
  | .all => ("all", none)
  | .any => ("any", none)
  | .gcd => ("gcd", none)
  | .isBool => ("isinstance", some "bool")
  | .isInt => ("isinstance", some "int")
  | .isStr => ("isinstance", some "str")
  | .isTuple => ("isinstance", some "tuple")
def biA : Bi → Nat
  | .min2 => 2
  | .max2 => 2
  | .gcd => 2
  | _ => 1
def Es.len : Es → Nat
  | .nil => 0
  | .cons _ es => Es.len es + 1
def isRng : E → Bool
  | .rng _ => true
  | _ => false
def isOneRng : Es → Bool
  | .cons (.rng _) .nil => true
  | _ => false
def rngBi : Bi → Bool
  | .list => true
  | .tuple => true
  | _ => false
/-- a target's slots -/
def tSl : T → List Nat
  | .nm i => [i]
  | .tp is => is
def chkN (N : List Str) (sc : Scope) : List Nat → List Expr → Bool
  | [], [] => true
  | i :: is, .Name x _ :: es => isAt N i x && locB sc x && chkN N sc is es
  | _, _ => false
def chkTg (N : List Str) (sc : Scope) : T → Expr → Bool
  | .nm i, .Name x _ => isAt N i x && locB sc x
  | .tp is, .Tuple es _ _ => chkN N sc is es && decide (is.length ≤ 20)
  | _, _ => false
def ownP (N : List Str) (own : List Nat) : List (Str × Nat) := own.map fun i => (N.getD i Str.empty, i)

/-- the arguments of a range -/
def rngA (sc : Scope) : Expr → Option (List Expr)
  | .Call (.Name x _) xs [] _ => if decide (x = "range") && glB sc x && decide (1 ≤ xs.length) && decide (xs.length ≤ 3) then some xs else none
  | _ => none
mutual
/-- may stand as a test -/
def okT : E → Bool
  | .ite _ _ _ => false
  | .not a => okT a
  | .and es => okTs es
  | .or es => okTs es
  | _ => true
def okTs : Es → Bool
  | .nil => true
  | .cons e es => okT e && okTs es
end
def few : E → Bool
  | .rng es => decide (Es.len es ≤ 2)
  | _ => false
def many : E → Bool
  | .rng es => decide (Es.len es = 3)
  | _ => false
/-- may stand ahead of a method's name -/
def basM : Expr → Bool
  | .Name _ _ => true
  | .List _ _ => true
  | _ => false
def isIntE : E → Bool
  | .int _ => true
  | _ => false
section
variable (c : Cfg)
mutual
def chkE : E → Scope → Expr → Bool
  | .non, _, e => match e with | .Constant .none _ _ => true | _ => false
  | .bl b, _, e => match e with | .Constant (.bool b') _ _ => b == b' | _ => false
  | .int i, _, e => match e with | .Constant (.int j) _ _ => i == j | _ => false
  | .str s, _, e => match e with | .Constant (.str x) _ _ => s == x.cps.toList | _ => false
  | .var i, sc, e => match e with | .Name x _ => isAt c.N i x && visB sc x | _ => false
  | .gl k, sc, e => match e with | .Name x _ => isAt c.GT k x && glB sc x | _ => false
  | .tup es, sc, e => match e with | .Tuple xs _ _ => chkEs es sc xs | _ => false
  | .lst es, sc, e => match e with | .List xs _ => chkEs es sc xs | _ => false
  | .bin op a b, sc, e => match e with | .BinOp x o y _ => bopB op o && chkE a sc x && chkE b sc y | _ => false
  | .neg a, sc, e => match e with | .UnaryOp .USub x _ => chkE a sc x | _ => false
  | .not a, sc, e => match e with | .UnaryOp .Not x _ => chkE a sc x | _ => false
  | .cmp op a b, sc, e => match e with | .Compare x [o] [y] _ => copB op o && chkE a sc x && chkE b sc y | _ => false
  | .chain op op' a b d, sc, e => match e with | .Compare x [o, o'] [y, z] _ => copB op o && copB op' o' && chkE a sc x && chkE b sc y && chkE d sc z | _ => false
  | .isN a y, sc, e => match e with
    | .Compare x [.Is] [.Constant .none _ _] _ => y && chkE a sc x
    | .Compare x [.IsNot] [.Constant .none _ _] _ => !y && chkE a sc x
    | _ => false
  | .isB a b y, sc, e => match e with
    | .Compare x [.Is] [.Constant (.bool b') _ _] _ => y && b == b' && chkE a sc x
    | .Compare x [.IsNot] [.Constant (.bool b') _ _] _ => !y && b == b' && chkE a sc x
    | _ => false
  | .and es, sc, e => match e with | .BoolOp .And xs _ => !xs.isEmpty && chkEs es sc xs | _ => false
  | .or es, sc, e => match e with | .BoolOp .Or xs _ => !xs.isEmpty && chkEs es sc xs | _ => false
  | .ite d a b, sc, e => match e with | .IfExp t x y _ => okT d && chkE d sc t && chkE a sc x && chkE b sc y | _ => false
  | .idx a i, sc, e => match e with | .Subscript x y _ => chkE a sc x && chkE i sc y | _ => false
  | .slT a hi, sc, e => match e with | .Subscript x (.Slice none (some y) none _) _ => chkE a sc x && chkE hi sc y | _ => false
  | .slF a lo, sc, e => match e with | .Subscript x (.Slice (some y) none none _) _ => chkE a sc x && chkE lo sc y | _ => false
  | .slB a lo hi, sc, e => match e with | .Subscript x (.Slice (some y) (some z) none _) _ => chkE a sc x && chkE lo sc y && chkE hi sc z | _ => false
  | .rev a, sc, e => match e with | .Subscript x (.Slice none none (some (.UnaryOp .USub (.Constant (.int 1) _ _) _)) _) _ => chkE a sc x | _ => false
  | .call f es, sc, e => match e with | .Call (.Name x _) xs [] _ => isAt c.FT f x && glB sc x && !xs.isEmpty && chkEs es sc xs | _ => false
  | .bi b es, sc, e => match e with
    | .Call (.Name x _) xs [] _ => decide (x = (biN b).1) && glB sc x && ((decide (Es.len es = biA b) && decide (b = .gcd → c.gcd = true) && (match (biN b).2 with
      | none => !xs.isEmpty && chkEs es sc xs
      | some ty => match xs with
        | [a, .Name y _] => decide (y = ty) && glB sc y && chkEs es sc [a]
        | _ => false)) || (rngBi b && match xs with | [r] => chkRs es sc r | _ => false) || (decide (b = .len) && match xs with | [r] => chkR3 es sc r | _ => false))
    | _ => false
  | .mt m a es, sc, e => match m with
    | .index => (match e with | .Call (.Attribute o n ap) [y] [] p => decide (n = "index") && (ap.endLine == p.line) && basM o && chkE a sc o && chkEs es sc [y] | _ => false)
    | .bitlen => (match e with | .Call (.Attribute o n ap) [] [] p => decide (n = "bit_length") && (ap.endLine == p.line) && basM o && chkE a sc o && chkEs es sc [] | _ => false)
  | .pop i, sc, e => match e with | .Call (.Attribute (.Name x _) m ap) [] [] p => isAt c.N i x && visB sc x && decide (m = "pop") && (ap.endLine == p.line) | _ => false
  | .popAt i a, sc, e => match e with | .Call (.Attribute (.Name x _) m ap) [y] [] p => isAt c.N i x && visB sc x && decide (m = "pop") && (ap.endLine == p.line) && chkE a sc y | _ => false
  | .rng _, _, _ => false
  | .comp own elt t it, sc, e => match e with
    | .ListComp x [⟨tg, iter, [], 0⟩] scope _ => blkC c.N sc scope (ownP c.N own) && chkTg c.N scope t tg && (tSl t).all (fun i => own.contains i) && (chkE it sc iter || chkR it sc iter) && chkE elt (relS scope sc) x
    | _ => false
  | .compIf own elt t it d, sc, e => match e with
    | .ListComp x [⟨tg, iter, [y], 0⟩] scope _ => blkC c.N sc scope (ownP c.N own) && chkTg c.N scope t tg && (tSl t).all (fun i => own.contains i) && (chkE it sc iter || chkR it sc iter) && chkE elt (relS scope sc) x && okT d && chkE d (relS scope sc) y
    | _ => false
def chkEs : Es → Scope → List Expr → Bool
  | .nil, _, l => match l with | [] => true | _ => false
  | .cons e es, sc, l => match l with | x :: xs => chkE e sc x && chkEs es sc xs | [] => false
/-- a range -/
def chkR : E → Scope → Expr → Bool
  | .rng es, sc, e => (match rngA sc e with | some xs => chkEs es sc xs | none => false)
  | _, _, _ => false
/-- one range of three arguments -/
def chkR3 : Es → Scope → Expr → Bool
  | .cons m es, sc, e => (match es with | .nil => true | _ => false) && many m && chkR m sc e
  | .nil, _, _ => false
/-- one range of two arguments at most -/
def chkRs : Es → Scope → Expr → Bool
  | .cons m es, sc, e => (match es with | .nil => true | _ => false) && few m && chkR m sc e
  | .nil, _, _ => false
end
end
end MS

set_option maxHeartbeats 4000000
namespace MS
open PySem PySem.Spec PyProof.Rows L2
theorem tuple_mul1 (l : Addr) (items : Array Value) (n : Nat) (dd : Option Addr) (sl : Array (Option Value)) (x : Int) (u : Tok) (c0 : (decide (x < -(2 ^ 63)) || decide (x ≥ 2 ^ 63)) = false) (c1 : (items.isEmpty || x == 1) = true) :
    Meets (Builtin.«tuple.__mul__» ⟨[.ref l, .int x u], []⟩) (fun _ R s => s.heap.get? l = some { cls := .type "tuple", dict := dd, data := .seq items n, slots := sl } ∧
      R (.ok (.ret (Value.ref l))) s) :=
  .of_wp fun prog w A R s h => by
    obtain ⟨hp, g, d, tk, os⟩ := s
    obtain ⟨hl, h⟩ := h
    have f1 := AutoSeq1.idx_int
    wp_walk using wpAny_loadPart' hl
    repeat (first
      | (refine wpAny_ite_false (decide_eq_false (by rw [c0]; exact Bool.false_ne_true)) ?_; wp_walk using wpAny_loadPart' hl)
      | (refine wpAny_ite_true (decide_eq_true c1) ?_; wp_walk using wpAny_loadPart' hl))
    exact ⟨_, rfl, h⟩
theorem tuple_mul0 (l : Addr) (items : Array Value) (n : Nat) (dd : Option Addr) (sl : Array (Option Value)) (x : Int) (u : Tok) (c0 : (decide (x < -(2 ^ 63)) || decide (x ≥ 2 ^ 63)) = false) (c1 : (items.isEmpty || x == 1) = false) (c2 : (decide (x ≤ 0) || items.isEmpty) = true) :
    Meets (Builtin.«tuple.__mul__» ⟨[.ref l, .int x u], []⟩) (fun _ R s => s.heap.get? l = some { cls := .type "tuple", dict := dd, data := .seq items n, slots := sl } ∧
      R (.ok (.ret (Value.ref s.heap.objs.size))) { s with heap := s.heap.push { cls := Value.type "tuple", data := Data.seq #[] }, toks := s.toks }) :=
  .of_wp fun prog w A R s h => by
    obtain ⟨hp, g, d, tk, os⟩ := s
    obtain ⟨hl, h⟩ := h
    have f1 := AutoSeq1.idx_int
    wp_walk using wpAny_loadPart' hl
    repeat (first
      | (refine wpAny_ite_false (decide_eq_false (by rw [c0]; exact Bool.false_ne_true)) ?_; wp_walk using wpAny_loadPart' hl)
      | (refine wpAny_ite_false (decide_eq_false (by rw [c1]; exact Bool.false_ne_true)) ?_; wp_walk using wpAny_loadPart' hl)
      | (refine wpAny_ite_true (decide_eq_true c2) ?_; wp_walk using wpAny_loadPart' hl))
    exact ⟨_, rfl, h⟩
section
variable {X : Cx}
def rRepA (K : PySem.W.Frag) : R2 := fun x y H Q => ∃ l k xs, x = .ref l ∧ y = .int k ∧ L2.SqT K H l xs ∧ -1000 ≤ k ∧ k ≤ 1000 ∧ xs.length ≤ 1000 ∧ ((List.replicate k.toNat xs).flatten = xs → Q (.ref l) H) ∧ ∀ p, H p = none → Q (.ref p) (upd H p (.tup (List.replicate k.toNat xs).flatten))
theorem op_repA : OpR X (binaryOp .Mult) (rRepA X.K) := by
  intro pins s σ H x y v u Q I rx ry h
  obtain ⟨l, k, xs, rfl, rfl, hT, h1, h2, hz, qs, q⟩ := h
  by_cases hk : xs ≠ [] ∧ 2 ≤ k
  · exact op_repT pins s σ H _ _ v u Q I rx ry ⟨l, k, xs, rfl, rfl, hT, hk.1, hk.2, h2, hz, q⟩
  cases rx
  obtain ⟨t, rfl⟩ := ry
  obtain ⟨its, r, ⟨⟨cls, dd, data, sl⟩, ho, hc, n, hd⟩, hs⟩ := I.tuple hT
  simp only at hc hd
  subst hc hd
  have hle : its.length = xs.length := r.length.symm
  have c0 : (decide (k < -(2 ^ 63)) || decide (k ≥ 2 ^ 63)) = false := by
    rw [decide_eq_false (by omega), decide_eq_false (by omega)] <;> rfl
  have hee : its.toArray.isEmpty = decide (xs = []) := by
    cases its with
    | nil =>
      have : xs = [] := List.eq_nil_of_length_eq_zero hle.symm
      rw [decide_eq_true this]; rfl
    | cons a b =>
      have : ¬ xs = [] := fun e => by rw [e] at hle; cases hle
      rw [decide_eq_false this]; rfl
  by_cases hs1 : xs = [] ∨ k = 1
  · have c1 : (its.toArray.isEmpty || k == 1) = true := by
      rw [hee]
      rcases hs1 with h | h
      · rw [decide_eq_true h]; rfl
      · rw [h]; simp
    have eq : (List.replicate k.toNat xs).flatten = xs := by
      rcases hs1 with h | h
      · subst h; simp
      · subst h; simp
    refine wpAny_binaryOp_repeat_ref (T := "tuple") (U := "int") (by decide) ⟨_, ho, rfl⟩ (fun s' => typeIs_int s' k t) noFill_tuple_mul F.fills_int_mul F.slot_int_rmul repeat_tuple F.slot_int_index.lookup
      (call_meets F.slot_int_rmul (typeIs_int s k t) F.entry_int_rmul (F.args_int_rmul_2 _ _) (int_rmul_tuple k t l its.toArray n dd sl)
        ⟨ho, rfl, ⟨_, ho, rfl⟩, call_meets F.slot_tuple_mul ⟨_, ho, rfl⟩ F.entry_tuple_mul (F.args_tuple_mul_2 _ _) (tuple_mul1 l its.toArray n dd sl k t c0 c1) ⟨ho, ?_⟩⟩)
    exact ⟨.ref l, H, I, rfl, qs eq⟩
  · have c1 : (its.toArray.isEmpty || k == 1) = false := by
      rw [hee, decide_eq_false (fun e => hs1 (.inl e)), Bool.false_or]
      exact beq_eq_false_iff_ne.mpr fun e => hs1 (.inr e)
    have hk0 : k ≤ 0 := by
      have : ¬ xs = [] := fun e => hs1 (.inl e)
      have : ¬ 2 ≤ k := fun e => hk ⟨this, e⟩
      have : k ≠ 1 := fun e => hs1 (.inr e)
      omega
    have c2 : (decide (k ≤ 0) || its.toArray.isEmpty) = true := by rw [decide_eq_true hk0]; rfl
    have eq : (List.replicate k.toNat xs).flatten = [] := by
      have : k.toNat = 0 := by omega
      rw [this]; rfl
    refine wpAny_binaryOp_repeat_ref (T := "tuple") (U := "int") (by decide) ⟨_, ho, rfl⟩ (fun s' => typeIs_int s' k t) noFill_tuple_mul F.fills_int_mul F.slot_int_rmul repeat_tuple F.slot_int_index.lookup
      (call_meets F.slot_int_rmul (typeIs_int s k t) F.entry_int_rmul (F.args_int_rmul_2 _ _) (int_rmul_tuple k t l its.toArray n dd sl)
        ⟨ho, rfl, ⟨_, ho, rfl⟩, call_meets F.slot_tuple_mul ⟨_, ho, rfl⟩ F.entry_tuple_mul (F.args_tuple_mul_2 _ _) (tuple_mul0 l its.toArray n dd sl k t c0 c1 c2) ⟨ho, ?_⟩⟩)
    rw [eq] at q
    refine ⟨.ref s.heap.objs.size, _, I.laid (t' := s.toks) (o := .tup []) (fun b ob q => Heap.get?_push_of_some _ q) (Nat.le_refl _) ?_, rfl, q _ (I.hok.fresh (Nat.le_refl _))⟩
    exact ⟨Nat.zero_le _, [], .nil, IsTup.new _ _⟩
end
end MS

set_option exponentiation.threshold 2000000
/-! Mini's plain operations are the model's. -/
namespace MS
open PySem PySem.Spec PyProof.Rows L2 Mini

/-- a result, new over F and H -/
structure Born (K : Frag) (F H : Hp) (v : V) (r : RV) (F' H' : Hp) : Prop where
  mono : Same F F'
  sub : Same F' H'
  keep : Same H H'
  fnew : ∀ a o, F' a = some o → F a = some o ∨ H a = none
  res : match r with
    | .val d => Rep K F' d v
    | .own ds => ∃ a vs, v = .ref a ∧ H a = none ∧ F' a = none ∧ H' a = some (.lst vs) ∧ Reps K F' ds vs
    | .ref _ => False
section
variable {K : Frag} {F H F' H' : Hp} {env : Mini.Env} {σ : L2.St} {v : V} {r : RV}
theorem Born.go (h : RE K F H env σ) (b : Born K F H v r F' H') : RE K F' H' env σ ∧ Ext env σ F H env σ F' H' ∧ RR K H F' H' env σ v r := by
  refine ⟨h.to b.mono b.sub fun i a o => ?_, ⟨b.mono, fun a o e _ => b.keep a o e, fun a o e => ⟨o, b.keep a o e⟩, fun a o e => ?_, fun _ _ c => .inl c, fun _ _ c => .inl c⟩, ?_⟩
  · obtain ⟨h1, vs, h2⟩ := h.own o
    refine ⟨?_, (b.keep a _ h2).trans h2.symm⟩
    cases q : F' a with
    | none => rfl
    | some u =>
      rcases b.fnew a u q with z | z
      · rw [h1] at z; cases z
      · rw [h2] at z; cases z
  · rcases b.fnew a o e with z | z
    · exact .inl z
    · exact .inr (.inl z)
  · have q := b.res
    cases r with
    | val d => exact q
    | own ds =>
      obtain ⟨a, vs, e, h0, h1, h2, h3⟩ := q
      exact ⟨a, vs, e, h0, h1, h2, h3, fun i o => by
        obtain ⟨_, ws, z⟩ := h.own o
        rw [h0] at z; cases z⟩
    | ref i => exact q.elim
theorem Born.flat (s : Same F H) {d : D} (h : Rep K F d v) : Born K F H v (.val d) F H := ⟨.refl _, s, .refl _, fun _ _ e => .inl e, h⟩
theorem Born.tup (s : Same F H) {p : Addr} {ds : List D} {vs : List V} (hp : H p = none) (r : Reps K F ds vs) : Born K F H (.ref p) (.val (.tup ds)) (upd F p (.tup vs)) (upd H p (.tup vs)) := by
  have m : Same F (upd F p (.tup vs)) := fun b u e => by rw [upd_ne (ne_of_none e (fnone s hp))]; exact e
  refine ⟨m, fun b u e => ?_, fun b u e => by rw [upd_ne (ne_of_none e hp)]; exact e, fun b u e => ?_, ⟨p, vs, rfl, SqT.of upd_same, Reps.mono m _ r⟩⟩
  · by_cases hb : b = p
    · subst hb; rw [upd_same] at e ⊢; exact e
    · rw [upd_ne hb] at e ⊢; exact s _ _ e
  · by_cases hb : b = p
    · exact .inr (by rw [hb]; exact hp)
    · rw [upd_ne hb] at e; exact .inl e
theorem Born.lst (s : Same F H) {p : Addr} {ds : List D} {vs : List V} (hp : H p = none) (r : Reps K F ds vs) : Born K F H (.ref p) (.own ds) F (upd H p (.lst vs)) :=
  ⟨.refl _, fun b u e => by have := s _ _ e; rw [upd_ne (ne_of_none this hp)]; exact this, fun b u e => by rw [upd_ne (ne_of_none e hp)]; exact e, fun _ _ e => .inl e, ⟨p, vs, rfl, hp, fnone s hp, upd_same, r⟩⟩
end

/-! ### reading rules -/
def rB2 (K : Frag) (g : D → D → Option RV) : R2 := fun x y H Q => ∃ F a b r, Same F H ∧ RdD K F H x a ∧ RdD K F H y b ∧ g a b = some r ∧ ∀ v F' H', Born K F H v r F' H' → Q v H'
/-- the arguments of a built-in as they may be read -/
def RdDs (K : Frag) (F H : Hp) : List V → List D → Prop
  | [], [] => True
  | v :: vs, d :: ds => RdD K F H v d ∧ RdDs K F H vs ds
  | _, _ => False
def rBn (K : Frag) (g : List D → Option RV) : List V → Hp → VK → Prop := fun xs H Q => ∃ F ds r, Same F H ∧ RdDs K F H xs ds ∧ g ds = some r ∧ ∀ v F' H', Born K F H v r F' H' → Q v H'

section
variable {X : Cx}
theorem LIM_eq : LIM = sizeLine := by decide
theorem mulOk_ok {i j : Int} (h : mulOk i j = true) : IntMulOk i j := by
  unfold mulOk at h
  simp only [Bool.or_eq_true, Bool.and_eq_true, decide_eq_true_eq] at h
  rcases h with (h | h) | ⟨h1, h2⟩
  · exact (show CMul i j from .inl (by omega)).ok
  · exact (show CMul i j from .inr (by omega)).ok
  · have b : ∀ x : Int, x.natAbs < BIG → Builtin.Int.intBits x ≤ 1000000 := fun x hx => by
      have e := PySem.Flt.log2_lt_of (k := 1000000) (by decide) (show x.natAbs < 2 ^ 1000000 from hx)
      unfold Builtin.Int.intBits
      split <;> omega
    have b1 := b i h1
    have b2 := b j h2
    have e : bitsLine = 134217728 := by decide
    unfold IntMulOk
    intro z
    rw [Bool.and_eq_true] at z
    have z2 := z.2
    unfold Builtin.Int.intTooBig at z2
    have z3 := of_decide_eq_true z2
    rw [e] at z3
    omega
theorem divOk_ok {j : Int} (h : divOk j = true) : j ≠ 0 ∧ ∀ i, Builtin.divisionGoesByPylong i j = false := by
  unfold divOk at h
  simp only [Bool.and_eq_true, decide_eq_true_eq] at h
  exact ⟨h.1, fun i => PyProof.noPylong_of_log2 (PySem.Flt.log2_lt_of (k := 9000) (by decide) h.2)⟩
theorem tupR {K : Frag} {F : Hp} {ds : List D} {v : V} (h : Rep K F (.tup ds) v) : ∃ a vs, v = .ref a ∧ SqT K F a vs ∧ Reps K F ds vs := h
theorem rep_int {K : Frag} {F : Hp} {i : Int} : Rep K F (.int i) (.int i) := rfl
theorem rep_bl {K : Frag} {F : Hp} {b : Bool} : Rep K F (.bl b) (.bl b) := rfl

theorem bin_add : OpR X (binaryOp .Add) (rB2 X.K (binop .add)) := by
  intro pins s σ H x y v u Q I rx ry ⟨F, a, b, r, sF, ha, hb, e, k⟩
  cases a <;> cases b <;> first | (cases e; done) | skip
  case int.int i j =>
    cases e
    exact op_add pins s σ H x y v u Q I rx ry ⟨i, j, ha, hb, k _ _ _ (.flat sF rfl)⟩
  case str.str p q =>
    simp only [binop] at e
    split at e
    · rename_i hz
      cases e
      refine op_add_str pins s σ H x y v u Q I rx ry ⟨⟨p.toArray⟩, ⟨q.toArray⟩, ha, hb, ?_, k _ _ _ (.flat sF ?_)⟩
      · show p.toArray.size + q.toArray.size ≤ sizeLine
        rw [← LIM_eq]; simpa using hz
      · show V.str (⟨p.toArray⟩ ++ ⟨q.toArray⟩) = V.str ⟨(p ++ q).toArray⟩
        have : (⟨p.toArray⟩ : Str) ++ ⟨q.toArray⟩ = ⟨p.toArray ++ q.toArray⟩ := rfl
        rw [this]; simp
    · cases e
  case tup.tup p q =>
    simp only [binop] at e
    split at e
    · rename_i hz
      cases e
      obtain ⟨a1, vs, rfl, h1, r1⟩ := tupR ha
      obtain ⟨a2, ws, rfl, h2, r2⟩ := tupR hb
      have l1 := r1.length
      have l2 := r2.length
      refine op_catA pins s σ H _ _ v u Q I rx ry ⟨a1, a2, vs, ws, rfl, rfl, sqT_mono sF h1, sqT_mono sF h2, by rw [← l1, ← l2, ← LIM_eq]; exact hz, fun z => ?_, fun z1 z2 => ?_, fun z1 z2 p' hp => ?_⟩
      · subst z
        have e0 : p = [] := List.eq_nil_of_length_eq_zero (by simpa using l1)
        subst e0
        exact k _ _ _ (.flat sF ⟨a2, ws, rfl, h2, r2⟩)
      · subst z2
        have e0 : q = [] := List.eq_nil_of_length_eq_zero (by simpa using l2)
        subst e0
        exact k _ _ _ (.flat sF ⟨a1, vs, rfl, h1, by rw [List.append_nil]; exact r1⟩)
      · exact k _ _ _ (.tup sF hp (r1.app r2))
    · cases e
  case vl.vl p q =>
    simp only [binop] at e
    split at e
    · rename_i hz
      cases e
      obtain ⟨a1, vs, rfl, h1, r1⟩ := ha
      obtain ⟨a2, ws, rfl, h2, r2⟩ := hb
      have l1 := r1.length
      have l2 := r2.length
      exact op_cat pins s σ H _ _ v u Q I rx ry ⟨a1, a2, vs, ws, rfl, rfl, h1, h2, by rw [← l1, ← l2, ← LIM_eq]; exact hz, fun p' hp => k _ _ _ (.lst sF hp (r1.app r2))⟩
    · cases e
theorem bin_sub : OpR X (binaryOp .Sub) (rB2 X.K (binop .sub)) := by
  intro pins s σ H x y v u Q I rx ry ⟨F, a, b, r, sF, ha, hb, e, k⟩
  cases a <;> cases b <;> first | (cases e; done) | skip
  case int.int i j =>
    cases e
    exact op_sub pins s σ H x y v u Q I rx ry ⟨i, j, ha, hb, k _ _ _ (.flat sF rfl)⟩
theorem op_mulM : OpR X (binaryOp .Mult) (rI (fun i j => mulOk i j = true) fun i j => .int (i * j)) := opI fun _ _ _ _ _ _ _ hc q => mul_int q (mulOk_ok hc)
theorem op_fdivM : OpR X (binaryOp .FloorDiv) (rI (fun _ j => divOk j = true) fun i j => .int (i.fdiv j)) := opI fun i j _ _ _ _ _ hc q => floordiv_int (divOk_ok hc).1 q (.inl ((divOk_ok hc).2 i))
theorem bin_mul : OpR X (binaryOp .Mult) (rB2 X.K (binop .mul)) := by
  intro pins s σ H x y v u Q I rx ry ⟨F, a, b, r, sF, ha, hb, e, k⟩
  cases a <;> cases b <;> first | (cases e; done) | skip
  case int.int i j =>
    simp only [binop] at e
    split at e
    · rename_i hz
      cases e
      exact op_mulM pins s σ H x y v u Q I rx ry ⟨i, j, ha, hb, hz, k _ _ _ (.flat sF rfl)⟩
    · cases e
  case tup.int p i =>
    simp only [binop] at e
    split at e
    · rename_i hz
      cases e
      simp only [Bool.and_eq_true, decide_eq_true_eq] at hz
      obtain ⟨⟨h2, h3⟩, h4⟩ := hz
      obtain ⟨a1, vs, rfl, h1, r1⟩ := tupR ha
      have l1 := r1.length
      refine op_repA pins s σ H _ _ v u Q I rx ry ⟨a1, i, vs, rfl, hb, sqT_mono sF h1, h2, h3, by omega, fun eq => k _ _ _ (.flat sF ⟨a1, vs, rfl, h1, ?_⟩), fun p' hp => k _ _ _ (.tup sF hp (r1.rep _))⟩
      have := r1.rep i.toNat
      rw [eq] at this
      exact this
    · cases e
  case vl.int p i =>
    simp only [binop] at e
    split at e
    · rename_i hz
      cases e
      simp only [Bool.and_eq_true, decide_eq_true_eq, rngOk] at hz
      obtain ⟨h0, h3⟩ := hz
      obtain ⟨a1, vs, rfl, h1, r1⟩ := ha
      have l1 := r1.length
      exact op_rep pins s σ H _ _ v u Q I rx ry ⟨a1, i, vs, rfl, hb, h1, by omega, by omega, by rw [← l1, ← LIM_eq]; exact h3, fun p' hp => k _ _ _ (.lst sF hp (r1.rep _))⟩
    · cases e
theorem bin_fdiv : OpR X (binaryOp .FloorDiv) (rB2 X.K (binop .fdiv)) := by
  intro pins s σ H x y v u Q I rx ry ⟨F, a, b, r, sF, ha, hb, e, k⟩
  cases a <;> cases b <;> first | (cases e; done) | skip
  case int.int i j =>
    simp only [binop] at e
    split at e
    · rename_i hz
      cases e
      exact op_fdivM pins s σ H x y v u Q I rx ry ⟨i, j, ha, hb, hz, k _ _ _ (.flat sF rfl)⟩
    · cases e
theorem bin_mod : OpR X (binaryOp .Mod) (rB2 X.K (binop .mod)) := by
  intro pins s σ H x y v u Q I rx ry ⟨F, a, b, r, sF, ha, hb, e, k⟩
  cases a <;> cases b <;> first | (cases e; done) | skip
  case int.int i j =>
    simp only [binop] at e
    split at e
    · rename_i hz
      cases e
      exact op_modN pins s σ H x y v u Q I rx ry ⟨i, j, ha, hb, hz, k _ _ _ (.flat sF rfl)⟩
    · cases e
theorem bin_pow : OpR X (binaryOp .Pow) (rB2 X.K (binop .pow)) := by
  intro pins s σ H x y v u Q I rx ry ⟨F, a, b, r, sF, ha, hb, e, k⟩
  cases a <;> cases b <;> first | (cases e; done) | skip
  case int.int i j =>
    simp only [binop] at e
    split at e
    · rename_i hz
      cases e
      simp only [powOk, Bool.and_eq_true, decide_eq_true_eq] at hz
      exact op_pow pins s σ H x y v u Q I rx ry ⟨i, j, ha, hb, ⟨hz.1.1, hz.1.2, hz.2⟩, k _ _ _ (.flat sF rfl)⟩
    · cases e
theorem bin_ok {op : Bop} {o : Operator} (h : bopB op o = true) : OpR X (binaryOp o) (rB2 X.K (binop op)) := by
  cases op <;> cases o <;> first | (cases h; done) | exact bin_add | exact bin_sub | exact bin_mul | exact bin_fdiv | exact bin_mod | exact bin_pow

/-! ### == at any depth -/
mutual
def toPy : D → PyData
  | .non => .none
  | .bl b => .bool b
  | .int i => .int i
  | .str s => .str ⟨s.toArray⟩
  | .tup ds => .tuple (toPys ds)
  | .vl ds => .list (toPys ds)
  | .fl ds => .list (toPys ds)
def toPys : List D → List PyData
  | [] => []
  | d :: ds => toPy d :: toPys ds
end
mutual
theorem toPy_plain : ∀ d : D, (toPy d).plain = true
  | .non => by simp [toPy, PyData.plain]
  | .bl _ => by simp [toPy, PyData.plain]
  | .int _ => by simp [toPy, PyData.plain]
  | .str _ => by simp [toPy, PyData.plain]
  | .tup ds => by simp [toPy, PyData.plain, toPys_plain ds]
  | .vl ds => by simp [toPy, PyData.plain, toPys_plain ds]
  | .fl ds => by simp [toPy, PyData.plain, toPys_plain ds]
theorem toPys_plain : ∀ ds : List D, PyData.plainAll (toPys ds) = true
  | [] => by simp [toPys, PyData.plainAll]
  | d :: ds => by simp [toPys, PyData.plainAll, toPy_plain d, toPys_plain ds]
end
mutual
theorem toPy_depth : ∀ d : D, (toPy d).depth = depD d
  | .non => by simp [toPy, PyData.depth, depD]
  | .bl _ => by simp [toPy, PyData.depth, depD]
  | .int _ => by simp [toPy, PyData.depth, depD]
  | .str _ => by simp [toPy, PyData.depth, depD]
  | .tup ds => by simp [toPy, PyData.depth, depD, toPys_depth ds]
  | .vl ds => by simp [toPy, PyData.depth, depD, toPys_depth ds]
  | .fl ds => by simp [toPy, PyData.depth, depD, toPys_depth ds]
theorem toPys_depth : ∀ ds : List D, PyData.depthAll (toPys ds) = depDs ds
  | [] => by simp [toPys, PyData.depthAll, depDs]
  | d :: ds => by simp [toPys, PyData.depthAll, depDs, toPy_depth d, toPys_depth ds]
end
theorem str_beq (a b : List Nat) : ((⟨a.toArray⟩ : Str) == ⟨b.toArray⟩) = (a == b) := by
  by_cases h : a = b
  · subst h; simp
  · have h1 : ¬ ((⟨a.toArray⟩ : Str) = ⟨b.toArray⟩) := fun e => h (by simpa using congrArg (fun s : Str => s.cps.toList) e)
    rw [beq_eq_false_iff_ne.mpr h1, beq_eq_false_iff_ne.mpr h]
mutual
theorem eqv_toPy : ∀ a b : D, PyData.eqv (toPy a) (toPy b) = eqD a b
  | .non, b => by cases b <;> simp [toPy, PyData.eqv, eqD]
  | .bl x, b => by cases b <;> simp [toPy, PyData.eqv, eqD]
  | .int x, b => by cases b <;> simp [toPy, PyData.eqv, eqD]
  | .str x, b => by
    cases b with
    | str y => simp only [toPy, PyData.eqv, eqD]; exact str_beq x y
    | _ => simp [toPy, PyData.eqv, eqD]
  | .tup xs, b => by
    cases b with
    | tup ys => simp only [toPy, PyData.eqv, eqD]; exact eqvs_toPy xs ys
    | _ => simp [toPy, PyData.eqv, eqD]
  | .vl xs, b => by
    cases b with
    | vl ys => simp only [toPy, PyData.eqv, eqD]; exact eqvs_toPy xs ys
    | fl ys => simp only [toPy, PyData.eqv, eqD]; exact eqvs_toPy xs ys
    | _ => simp [toPy, PyData.eqv, eqD]
  | .fl xs, b => by
    cases b with
    | vl ys => simp only [toPy, PyData.eqv, eqD]; exact eqvs_toPy xs ys
    | fl ys => simp only [toPy, PyData.eqv, eqD]; exact eqvs_toPy xs ys
    | _ => simp [toPy, PyData.eqv, eqD]
theorem eqvs_toPy : ∀ a b : List D, PyData.eqvAll (toPys a) (toPys b) = eqDs a b
  | [], b => by cases b <;> simp [toPys, PyData.eqvAll, eqDs]
  | x :: xs, b => by
    cases b with
    | nil => simp [toPys, PyData.eqvAll, eqDs]
    | cons y ys => simp [toPys, PyData.eqvAll, eqDs, eqv_toPy x y, eqvs_toPy xs ys]
end
mutual
theorem rep_Dp {K : Frag} {H : Hp} : ∀ (d : D) {v : V}, Rep K H d v → Dp K H v (toPy d)
  | .non, _, h => by rw [show _ = V.non from h]; exact .non
  | .bl b, _, h => by rw [show _ = V.bl b from h]; exact .bl b
  | .int i, _, h => by rw [show _ = V.int i from h]; exact .int i
  | .str s, _, h => by rw [show _ = V.str ⟨s.toArray⟩ from h]; exact .str _
  | .tup ds, _, ⟨a, vs, e, s, r⟩ => by rw [e]; exact .tup s (reps_Dp ds r)
  | .vl ds, _, ⟨a, vs, e, s, r⟩ => by rw [e]; exact .lst (SqL.of s) (reps_Dp ds r)
  | .fl ds, _, ⟨a, vs, e, s, r⟩ => by rw [e]; exact .lst s (reps_Dp ds r)
theorem reps_Dp {K : Frag} {H : Hp} : ∀ (ds : List D) {vs : List V}, Reps K H ds vs → DpAll K H vs (toPys ds)
  | [], _, h => by rw [show _ = [] from h]; exact .nil
  | d :: ds, _, ⟨v, r, e, p, q⟩ => by rw [e]; exact .cons (rep_Dp d p) (reps_Dp ds q)
end
theorem dok_room {A : Around} {a b : Nat} (h : dok a b = true) (hu : A.units + 70 < cLine) : A.units + 1 + min a b < cLine := by
  unfold dok at h
  simp only [Bool.or_eq_true, decide_eq_true_eq] at h
  have h1 : min a b ≤ a := Nat.min_le_left _ _
  have h2 : min a b ≤ b := Nat.min_le_right _ _
  omega
def rC2 (K : Frag) (g : D → D → Option Bool) : R2 := fun x y H Q => ∃ F a b r, Same F H ∧ RdD K F H x a ∧ RdD K F H y b ∧ g a b = some r ∧ Q (.bl r) H
theorem isin_any (x : D) : ∀ ys : List D, (toPys ys).any (fun z => PyData.eqv z (toPy x)) = isinD x ys
  | [] => rfl
  | y :: ys => by
    rw [toPys, List.any_cons, isin_any x ys, eqv_toPy]
    rfl
theorem cmp_ok (hu : X.A.units + 70 < cLine) {op : Cop} {o : CmpOp} (h : copB op o = true) : OpR X (compareOp o) (rC2 X.K (cmpop op)) := by
  intro pins s σ H x y v u Q I rx ry ⟨F, a, b, r, sF, ha, hb, e, k⟩
  have rd : ∀ {d : D} {x : V} {v : Value}, RdD X.K F H x d → RelV x v → ∃ as, Reads s.heap v (toPy d) as := fun hd r => Dp.reads I _ _ _ (rep_Dp _ (hd.rep sF)) r
  cases op <;> cases o <;> first | (cases h; done) | skip
  case eq.Eq =>
    simp only [cmpop] at e
    split at e
    · rename_i hz
      cases e
      obtain ⟨as, r1⟩ := rd ha rx
      obtain ⟨bs, r2⟩ := rd hb ry
      have := dok_room hz hu
      refine SeqAt.eq_plain r1 r2 (toPy_plain a) (toPy_plain b) (by rw [toPy_depth, toPy_depth]; omega) ?_
      rw [eqv_toPy]
      exact ⟨.bl _, H, I, rfl, k⟩
    · cases e
  case ne.NotEq =>
    simp only [cmpop] at e
    split at e
    · rename_i hz
      cases e
      obtain ⟨as, r1⟩ := rd ha rx
      obtain ⟨bs, r2⟩ := rd hb ry
      have := dok_room hz hu
      refine SeqAt.ne_plain r1 r2 (toPy_plain a) (toPy_plain b) (by rw [toPy_depth, toPy_depth]; omega) ?_
      rw [eqv_toPy]
      exact ⟨.bl _, H, I, rfl, k⟩
    · cases e
  case lt.Lt =>
    cases a <;> cases b <;> first | (cases e; done) | skip
    cases e
    exact op_lt pins s σ H x y v u Q I rx ry ⟨_, _, ha, hb, k⟩
  case le.LtE =>
    cases a <;> cases b <;> first | (cases e; done) | skip
    cases e
    exact op_le pins s σ H x y v u Q I rx ry ⟨_, _, ha, hb, k⟩
  case gt.Gt =>
    cases a <;> cases b <;> first | (cases e; done) | skip
    cases e
    exact op_gt pins s σ H x y v u Q I rx ry ⟨_, _, ha, hb, k⟩
  case ge.GtE =>
    cases a <;> cases b <;> first | (cases e; done) | skip
    cases e
    exact op_ge pins s σ H x y v u Q I rx ry ⟨_, _, ha, hb, k⟩
  case isin.In =>
    obtain ⟨as, r1⟩ := rd ha rx
    obtain ⟨bs, r2⟩ := rd hb ry
    cases b <;> first | (simp only [cmpop] at e; cases e; done) | skip
    case tup ys =>
      simp only [cmpop] at e
      split at e
      · rename_i hz
        cases e
        refine SeqAt.in_tuple_data r2 r1 (toPys_plain ys) (toPy_plain a) (by rw [toPy_depth, toPys_depth]; exact dok_room hz hu) ?_
        rw [isin_any]
        exact ⟨.bl _, H, I, rfl, k⟩
      · cases e
    case vl ys =>
      simp only [cmpop] at e
      split at e
      · rename_i hz
        cases e
        refine SeqAt.in_list_data r2 r1 (toPys_plain ys) (toPy_plain a) (by rw [toPy_depth, toPys_depth]; exact dok_room hz hu) ?_
        rw [isin_any]
        exact ⟨.bl _, H, I, rfl, k⟩
      · cases e
    case str ys =>
      cases a <;> first | (simp only [cmpop] at e; cases e; done) | skip
      rename_i z
      match z, e, ha with
      | [c], e, ha =>
        simp only [cmpop] at e
        cases e
        exact op_in_sign pins s σ H x y v u Q I rx ry ⟨c, ⟨ys.toArray⟩, ha, hb, k⟩
  case notin.NotIn =>
    obtain ⟨as, r1⟩ := rd ha rx
    obtain ⟨bs, r2⟩ := rd hb ry
    cases b <;> first | (simp only [cmpop] at e; cases e; done) | skip
    case tup ys =>
      simp only [cmpop] at e
      split at e
      · rename_i hz
        cases e
        refine SeqAt.notIn_tuple_data r2 r1 (toPys_plain ys) (toPy_plain a) (by rw [toPy_depth, toPys_depth]; exact dok_room hz hu) ?_
        rw [isin_any]
        exact ⟨.bl _, H, I, rfl, k⟩
      · cases e
    case vl ys =>
      simp only [cmpop] at e
      split at e
      · rename_i hz
        cases e
        refine SeqAt.notIn_list_data r2 r1 (toPys_plain ys) (toPy_plain a) (by rw [toPy_depth, toPys_depth]; exact dok_room hz hu) ?_
        rw [isin_any]
        exact ⟨.bl _, H, I, rfl, k⟩
      · cases e
    case str ys =>
      cases a <;> first | (simp only [cmpop] at e; cases e; done) | skip
      rename_i z
      match z, e, ha with
      | [c], e, ha =>
        simp only [cmpop] at e
        cases e
        exact op_notIn_sign pins s σ H x y v u Q I rx ry ⟨c, ⟨ys.toArray⟩, ha, hb, k⟩
end
end MS

/-! The built-ins. -/
namespace MS
open PySem PySem.Spec PyProof.Rows L2 Mini
section
variable {X : Cx}
theorem sq_of {K : Frag} {F H : Hp} (s : Same F H) {d : D} {v : V} {xs : List D} (h : RdD K F H v d) (e : seqOf d = some xs) : ∃ a vs, v = .ref a ∧ (SqL K H a vs ∨ SqT K H a vs) ∧ Reps K F xs vs ∧ ((∃ z, d = .tup z) → SqT K F a vs) ∧ ((∀ z, d ≠ .tup z) → SqL K H a vs) := by
  cases d <;> first | (cases e; done) | skip
  case tup ds =>
    cases e
    obtain ⟨a, vs, rfl, h1, h2⟩ := tupR h
    exact ⟨a, vs, rfl, .inr (sqT_mono s h1), h2, fun _ => h1, fun z => absurd rfl (z _)⟩
  case vl ds =>
    cases e
    obtain ⟨a, vs, rfl, h1, h2⟩ := h
    refine ⟨a, vs, rfl, .inl (SqL.of h1), h2, fun z => ?_, fun _ => SqL.of h1⟩
    obtain ⟨_, z⟩ := z
    cases z
  case fl ds =>
    cases e
    obtain ⟨a, vs, rfl, h1, h2⟩ := h
    refine ⟨a, vs, rfl, .inl (sqL_mono s h1), h2, fun z => ?_, fun _ => sqL_mono s h1⟩
    obtain ⟨_, z⟩ := z
    cases z
theorem ls_of {K : Frag} {F H : Hp} (s : Same F H) {d : D} {v : V} {xs : List D} (h : RdD K F H v d) (e : lstOf d = some xs) : ∃ a vs, v = .ref a ∧ SqL K H a vs ∧ Reps K F xs vs := by
  cases d <;> first | (cases e; done) | skip
  case vl ds =>
    cases e
    obtain ⟨a, vs, rfl, h1, h2⟩ := h
    exact ⟨a, vs, rfl, SqL.of h1, h2⟩
  case fl ds =>
    cases e
    obtain ⟨a, vs, rfl, h1, h2⟩ := h
    exact ⟨a, vs, rfl, sqL_mono s h1, h2⟩
theorem ints_vs {K : Frag} {F : Hp} : ∀ {xs : List D} {vs : List V} {ns : List Int}, Reps K F xs vs → intsD xs = some ns → vs = ns.map V.int ∧ xs = ns.map D.int
  | [], vs, ns, r, e => by cases e; exact ⟨r, rfl⟩
  | x :: xs, vs, ns, r, e => by
    obtain ⟨v, w, rfl, p, q⟩ := r
    cases x <;> first | (cases e; done) | skip
    simp only [intsD, Option.map_eq_some_iff] at e
    obtain ⟨ms, e1, rfl⟩ := e
    obtain ⟨h1, h2⟩ := ints_vs q e1
    rw [show v = V.int _ from p, h1, h2]
    exact ⟨rfl, rfl⟩
theorem reps_ints {K : Frag} {F : Hp} : ∀ (ns : List Int), Reps K F (ns.map D.int) (ns.map V.int)
  | [] => rfl
  | n :: ns => ⟨_, _, rfl, rfl, reps_ints ns⟩
theorem one_d {K : Frag} {F H : Hp} {xs : List V} {d : D} (h : RdDs K F H xs [d]) : ∃ v, xs = [v] ∧ RdD K F H v d := by
  match xs, h with
  | [v], h => exact ⟨v, rfl, h.1⟩
theorem two_d {K : Frag} {F H : Hp} {xs : List V} {d e : D} (h : RdDs K F H xs [d, e]) : ∃ v w, xs = [v, w] ∧ RdD K F H v d ∧ RdD K F H w e := by
  match xs, h with
  | [v, w], h => exact ⟨v, w, rfl, h.1, h.2.1⟩

end
mutual
theorem toks_ord : ∀ d : D, ordD d = true → PySem.W.keyToks (toPy d) = (kt d).map Sum.inl
  | .int n, _ => by simp [toPy, PySem.W.keyToks, kt]
  | .tup xs, h => by
    rw [toPy, PySem.W.keyToks, kt]
    exact tokss_ord xs (by simpa [ordD] using h)
  | .non, h => by simp [ordD] at h
  | .bl _, h => by simp [ordD] at h
  | .str _, h => by simp [ordD] at h
  | .vl _, h => by simp [ordD] at h
  | .fl _, h => by simp [ordD] at h
theorem tokss_ord : ∀ ds : List D, ordDs ds = true → PySem.W.keyToksAll (toPys ds) = (kts ds).map Sum.inl
  | [], _ => by simp [toPys, PySem.W.keyToksAll, kts]
  | d :: ds, h => by
    rw [ordDs, Bool.and_eq_true] at h
    rw [toPys, PySem.W.keyToksAll, kts, toks_ord d h.1, tokss_ord ds h.2]
    simp
end
theorem lex_inl : ∀ a b : List Int, PyProof.Rows.lexLt itemOrd (a.map Sum.inl) (b.map Sum.inl) = lexI a b
  | [], [] => rfl
  | [], _ :: _ => rfl
  | _ :: _, [] => rfl
  | x :: r, y :: t => by
    show (decide (x < y) || (!decide (y < x) && PyProof.Rows.lexLt itemOrd (r.map Sum.inl) (t.map Sum.inl))) = _
    rw [lex_inl r t, lexI]
theorem lt_ord {a b : D} (ha : ordD a = true) (hb : ordD b = true) : PySem.W.dataLt (toPy a) (toPy b) = ltO a b := by
  unfold PySem.W.dataLt ltO
  rw [toks_ord a ha, toks_ord b hb, lex_inl]
mutual
theorem alk_ok : ∀ a b : D, alk a b = true → PySem.W.alike (toPy a) (toPy b) = true
  | .int _, b, h => by cases b <;> first | (simp [alk] at h; done) | simp [toPy, PySem.W.alike]
  | .tup xs, b, h => by
    cases b <;> first | (simp [alk] at h; done) | skip
    rw [toPy, toPy, PySem.W.alike]
    exact alks_ok xs _ (by simpa [alk] using h)
  | .non, b, h => by cases b <;> simp [alk] at h
  | .bl _, b, h => by cases b <;> simp [alk] at h
  | .str _, b, h => by cases b <;> simp [alk] at h
  | .vl _, b, h => by cases b <;> simp [alk] at h
  | .fl _, b, h => by cases b <;> simp [alk] at h
theorem alks_ok : ∀ a b : List D, alks a b = true → PySem.W.alikeAll (toPys a) (toPys b) = true
  | [], b, _ => by simp [toPys, PySem.W.alikeAll]
  | _ :: _, [], _ => by simp [toPys, PySem.W.alikeAll]
  | x :: xs, y :: ys, h => by
    rw [alks, Bool.and_eq_true] at h
    rw [toPys, toPys, PySem.W.alikeAll, alk_ok x y h.1, alks_ok xs ys h.2]
    rfl
end
mutual
theorem toPy_inj : ∀ a b : D, ordD a = true → ordD b = true → toPy a = toPy b → a = b
  | .int _, b, _, hb, e => by cases b <;> first | (simp [ordD] at hb; done) | (simp [toPy] at e; done) | (simp [toPy] at e; rw [e])
  | .tup xs, b, ha, hb, e => by
    cases b <;> first | (simp [ordD] at hb; done) | (simp [toPy] at e; done) | skip
    rw [toPys_inj xs _ (by simpa [ordD] using ha) (by simpa [ordD] using hb) (by simpa [toPy] using e)]
  | .non, b, h, _, _ => by simp [ordD] at h
  | .bl _, b, h, _, _ => by simp [ordD] at h
  | .str _, b, h, _, _ => by simp [ordD] at h
  | .vl _, b, h, _, _ => by simp [ordD] at h
  | .fl _, b, h, _, _ => by simp [ordD] at h
theorem toPys_inj : ∀ a b : List D, ordDs a = true → ordDs b = true → toPys a = toPys b → a = b
  | [], b, _, _, e => by cases b <;> first | rfl | simp [toPys] at e
  | _ :: _, [], _, _, e => by simp [toPys] at e
  | x :: xs, y :: ys, ha, hb, e => by
    rw [ordDs, Bool.and_eq_true] at ha hb
    simp only [toPys, List.cons.injEq] at e
    rw [toPy_inj x y ha.1 hb.1 e.1, toPys_inj xs ys ha.2 hb.2 e.2]
end
theorem toPys_map : ∀ xs : List D, toPys xs = xs.map toPy
  | [] => rfl
  | x :: xs => by rw [toPys, toPys_map xs]; rfl
structure OrdOk (xs : List D) : Prop where
  ord : ∀ x ∈ xs, ordD x = true
  tup : ∀ x ∈ xs, isT1 x = true
  dep : ∀ x ∈ xs, depD x ≤ 8
  alk : ∀ x ∈ xs, ∀ y ∈ xs, alk x y = true
theorem ordOk_iff {xs : List D} (h : ordOk xs = true) : OrdOk xs := by
  simp only [ordOk, Bool.and_eq_true, List.all_eq_true, decide_eq_true_eq] at h
  exact ⟨fun x hx => (h.1 x hx).1.1, fun x hx => (h.1 x hx).1.2, fun x hx => (h.1 x hx).2, h.2⟩
theorem OrdOk.all {xs : List D} (h : OrdOk xs) : PySem.W.AllAlike (xs.map toPy) := fun d hd e he => by
  obtain ⟨x, hx, rfl⟩ := List.mem_map.mp hd
  obtain ⟨y, hy, rfl⟩ := List.mem_map.mp he
  exact alk_ok x y (h.alk x hx y hy)
theorem isT1_toPy {d : D} (h : isT1 d = true) : ∃ x r, toPy d = .tuple (x :: r) := by
  cases d <;> first | (simp [isT1] at h; done) | skip
  rename_i xs
  cases xs with
  | nil => simp [isT1] at h
  | cons x r => exact ⟨_, _, by rw [toPy, toPys]⟩
theorem OrdOk.sortable {xs : List D} (h : OrdOk xs) : PySem.W.Sortable (xs.map toPy) := .inl fun d hd => by
  obtain ⟨x, hx, rfl⟩ := List.mem_map.mp hd
  exact isT1_toPy (h.tup x hx)
theorem OrdOk.alikeAll {xs : List D} (h : OrdOk xs) : PySem.W.AlikeAll (xs.map toPy) := ⟨h.all, fun d hd => by
  obtain ⟨x, hx, rfl⟩ := List.mem_map.mp hd
  obtain ⟨a, b, e⟩ := isT1_toPy (h.tup x hx)
  rw [e]; exact fun z => nomatch z⟩
theorem OrdOk.sort {xs : List D} (h : OrdOk xs) : xs.mergeSort (PySem.W.dataLe false toPy) = xs.mergeSort leO := by
  have := List.map_mergeSort (f := id) (r := PySem.W.dataLe false toPy) (s := leO) (l := xs) fun a ha b hb => by
    show (!PySem.W.dataLt (toPy b) (toPy a)) = !ltO b a
    rw [lt_ord (h.ord b hb) (h.ord a ha)]
  simpa using this
theorem OrdOk.depths : ∀ {xs : List D}, (∀ x ∈ xs, depD x ≤ 8) → depDs xs ≤ 8
  | [], _ => by simp [depDs]
  | x :: xs, h => by
    have h1 := h x (List.mem_cons_self ..)
    have h2 := OrdOk.depths (xs := xs) fun y hy => h y (List.mem_cons_of_mem _ hy)
    simp only [depDs]; omega
theorem minD_ord : ∀ (xs : List D) (m : D), ordD m = true → (∀ x ∈ xs, ordD x = true) → PySem.W.minD (toPy m) (xs.map toPy) = toPy (minOf m xs) ∧ ordD (minOf m xs) = true
  | [], m, hm, _ => ⟨rfl, hm⟩
  | x :: xs, m, hm, h => by
    have hx := h x (List.mem_cons_self ..)
    have ht : ∀ y ∈ xs, ordD y = true := fun y hy => h y (List.mem_cons_of_mem _ hy)
    show PySem.W.minD (if PySem.W.dataLt (toPy x) (toPy m) then toPy x else toPy m) (xs.map toPy) = toPy (minOf (if ltO x m then x else m) xs) ∧ ordD (minOf (if ltO x m then x else m) xs) = true
    rw [lt_ord hx hm]
    cases ltO x m
    · exact minD_ord xs m hm ht
    · exact minD_ord xs x hx ht
theorem maxD_ord : ∀ (xs : List D) (m : D), ordD m = true → (∀ x ∈ xs, ordD x = true) → PySem.W.maxD (toPy m) (xs.map toPy) = toPy (maxOf m xs) ∧ ordD (maxOf m xs) = true
  | [], m, hm, _ => ⟨rfl, hm⟩
  | x :: xs, m, hm, h => by
    have hx := h x (List.mem_cons_self ..)
    have ht : ∀ y ∈ xs, ordD y = true := fun y hy => h y (List.mem_cons_of_mem _ hy)
    show PySem.W.maxD (if PySem.W.dataLt (toPy m) (toPy x) then toPy x else toPy m) (xs.map toPy) = toPy (maxOf (if ltO m x then x else m) xs) ∧ ordD (maxOf (if ltO m x then x else m) xs) = true
    rw [lt_ord hm hx]
    cases ltO m x
    · exact maxD_ord xs m hm ht
    · exact maxD_ord xs x hx ht
theorem minOf_mem : ∀ (xs : List D) (m : D), minOf m xs ∈ m :: xs
  | [], m => List.mem_cons_self ..
  | x :: xs, m => by
    show minOf (if ltO x m then x else m) xs ∈ _
    cases ltO x m
    · rcases List.mem_cons.mp (minOf_mem xs m) with e | e
      · exact List.mem_cons.mpr (.inl e)
      · exact List.mem_cons_of_mem _ (List.mem_cons_of_mem _ e)
    · exact List.mem_cons_of_mem _ (minOf_mem xs x)
theorem maxOf_mem : ∀ (xs : List D) (m : D), maxOf m xs ∈ m :: xs
  | [], m => List.mem_cons_self ..
  | x :: xs, m => by
    show maxOf (if ltO m x then x else m) xs ∈ _
    cases ltO m x
    · rcases List.mem_cons.mp (maxOf_mem xs m) with e | e
      · exact List.mem_cons.mpr (.inl e)
      · exact List.mem_cons_of_mem _ (List.mem_cons_of_mem _ e)
    · exact List.mem_cons_of_mem _ (maxOf_mem xs x)
theorem vals_at : ∀ {xs : List V} {us : List Value} {i : Nat} {u : Value}, Vals xs us → us[i]? = some u → ∃ x, xs[i]? = some x ∧ RelV x u := by
  intro xs us i u r e
  have hl := r.length
  obtain ⟨hi, _⟩ := List.getElem?_eq_some_iff.mp e
  obtain ⟨w, h1, h2⟩ := r.get (i := i) (List.getElem?_eq_getElem (by omega))
  rw [e] at h1; cases h1
  exact ⟨_, List.getElem?_eq_getElem (by omega), h2⟩
theorem each_ord {K : Frag} {F : Hp} : ∀ {ys : List D} {vs : List V} {its : List Value}, Reps K F ys vs → Vals vs its → PySem.W.EachIs (fun u d => ∃ x, RelV x u ∧ Rep K F d x) its ys
  | [], _, its, r, v => by
    rw [show _ = [] from r] at v
    cases v
    exact .nil
  | d :: ds, _, its, ⟨x, w, e, p, q⟩, v => by
    subst e
    cases v with
    | cons h t => exact .cons ⟨x, h, p⟩ (each_ord q t)
theorem ord_each {K : Frag} {F : Hp} : ∀ {ys : List D} {its : List Value}, PySem.W.EachIs (fun u d => ∃ x, RelV x u ∧ Rep K F d x) its ys → ∃ vs, Vals vs its ∧ Reps K F ys vs
  | _, _, .nil => ⟨[], .nil, rfl⟩
  | _, _, .cons ⟨x, h, p⟩ r => by
    obtain ⟨vs, h1, h2⟩ := ord_each r
    exact ⟨x :: vs, .cons h h1, x, vs, rfl, p, h2⟩
section
variable {X : Cx}
theorem sorted_ord (hu : X.A.units + 70 < cLine) : CallR X (.builtin "sorted") (fun xs H Q => ∃ F d ys v, xs = [v] ∧ Same F H ∧ RdD X.K F H v d ∧ lstOf d = some ys ∧ OrdOk ys ∧ ∀ v F' H', Born X.K F H v (.own (ys.mergeSort leO)) F' H' → Q v H') := by
  intro pins s σ H xs us Q I rx ⟨F, d, ys, v, ex, sF, hd, hl, O, k⟩
  subst ex
  obtain ⟨a, vs, rfl, h1, h2⟩ := ls_of sF hd hl
  obtain ⟨its, rv, ht, hz⟩ := I.list h1
  rw [Vals.ref1 rx]
  have E := each_ord h2 rv
  have hlen := h2.length
  refine PySem.W.sorted_data (R := fun u d => ∃ x, RelV x u ∧ Rep X.K F d x) ht.isList E (E.mono fun u d ⟨x, r, p⟩ => Dp.reads I _ _ _ (rep_Dp d (Rep.mono sF d p)) r) O.all O.sortable (by omega) (fun b hb => ?_) fun out ho eo => ?_
  · rw [toPy_depth]
    have := O.dep b hb
    omega
  · rw [O.sort] at eo
    obtain ⟨ws, w1, w2⟩ := ord_each eo
    obtain ⟨ep, he'⟩ := PyProof.Rows.sortedAll_at s.heap its out.toArray
    have hw := w1.length
    exact ⟨.ref _, upd H (s.heap.objs.size + 1) (.lst ws), I.laid (t' := s.toks) (fun _ _ => PyProof.Rows.sortedAll_old) (Nat.le_succ _) ⟨by omega, out, ep, w1, he'⟩, rfl, k _ _ _ (.lst sF (I.hok.fresh (Nat.le_succ _)) w2)⟩
theorem minmax_ord (hc : X.calm = true) (hu : X.A.units + 70 < cLine) (b : Bool) : CallR X (.builtin (if b then "min" else "max")) (fun xs H Q => ∃ F d m ms v, xs = [v] ∧ Same F H ∧ RdD X.K F H v d ∧ seqOf d = some (m :: ms) ∧ OrdOk (m :: ms) ∧ ∀ v F' H', Born X.K F H v (.val (if b then minOf m ms else maxOf m ms)) F' H' → Q v H') := by
  intro pins s σ H xs us Q I rx ⟨F, d, m, ms, v, ex, sF, hd, hl, O, k⟩
  subst ex
  obtain ⟨a, vs, rfl, h1, h2, _⟩ := sq_of sF hd hl
  have hA := I.ok.hd hc
  rw [Vals.ref1 rx]
  have hdep : PyData.depthAll (toPy m :: ms.map toPy) ≤ 8 := by
    rw [← List.map_cons, ← toPys_map, toPys_depth]
    exact OrdOk.depths O.dep
  have hm := O.ord m (List.mem_cons_self ..)
  have hms : ∀ x ∈ ms, ordD x = true := fun x hx => O.ord x (List.mem_cons_of_mem _ hx)
  have fin : ∀ (its : List Value) (z : D), Vals vs its → ordD z = true → z ∈ m :: ms → z = (if b then minOf m ms else maxOf m ms) → ∀ (i : Nat) (v : Value) (h' : Heap) (tk : Nat) (bs : List Addr), its[i]? = some v → Reads h' v (toPy z) bs → (∀ b o, s.heap.get? b = some o → h'.get? b = some o) → EP X pins σ Q v { s with heap := h', toks := tk } := by
    intro its z rv hz hzm ez i v h' tk bs hv rd hk
    obtain ⟨x, hx, rxv⟩ := vals_at rv hv
    obtain ⟨w, hw, p⟩ := h2.getV hx
    have hwm : w ∈ m :: ms := List.mem_of_getElem? hw
    obtain ⟨as, r0⟩ := Dp.reads I _ _ _ (rep_Dp w (Rep.mono sF w p)) rxv
    have r1 := PySem.W.reads_keeps hk r0
    have e := PySem.W.alike_unique _ _ _ _ _ (alk_ok w z (O.alk w hwm z hzm)) r1 rd
    have e := toPy_inj w z (O.ord w hwm) hz e
    subst e
    exact ⟨x, H, I.kept hk, rxv, k _ _ _ (Born.flat sF (by rw [← ez]; exact p))⟩
  have Al : PySem.W.AlikeAll (toPy m :: ms.map toPy) := by rw [← List.map_cons]; exact O.alikeAll
  rcases h1 with h1 | h1
  · obtain ⟨its, rv, ht, hz⟩ := I.list h1
    obtain ⟨as, hr⟩ := Dp.readsAll I _ _ its (reps_Dp (m :: ms) (Reps.mono sF _ h2)) rv
    rw [toPys_map, List.map_cons] at hr
    cases b
    · exact PySem.W.max_list_data hA ht.isList hr Al (by omega) fun i v h' tk bs hv rd hk => fin its _ rv (maxD_ord ms m hm hms).2 (maxOf_mem ms m) rfl i v h' tk bs (by simpa using hv) (by rw [← (maxD_ord ms m hm hms).1]; exact rd) hk
    · exact PySem.W.min_list_data hA ht.isList hr Al (by omega) fun i v h' tk bs hv rd hk => fin its _ rv (minD_ord ms m hm hms).2 (minOf_mem ms m) rfl i v h' tk bs (by simpa using hv) (by rw [← (minD_ord ms m hm hms).1]; exact rd) hk
  · obtain ⟨its, rv, ht, hz⟩ := I.tuple h1
    obtain ⟨as, hr⟩ := Dp.readsAll I _ _ its (reps_Dp (m :: ms) (Reps.mono sF _ h2)) rv
    rw [toPys_map, List.map_cons] at hr
    cases b
    · exact PySem.W.max_tuple_data hA ht hr Al (by omega) fun i v h' tk bs hv rd hk => fin its _ rv (maxD_ord ms m hm hms).2 (maxOf_mem ms m) rfl i v h' tk bs (by simpa using hv) (by rw [← (maxD_ord ms m hm hms).1]; exact rd) hk
    · exact PySem.W.min_tuple_data hA ht hr Al (by omega) fun i v h' tk bs hv rd hk => fin its _ rv (minD_ord ms m hm hms).2 (minOf_mem ms m) rfl i v h' tk bs (by simpa using hv) (by rw [← (minD_ord ms m hm hms).1]; exact rd) hk
theorem bi_len : CallR X (.builtin "len") (rBn X.K (bip .len)) := by
  intro pins s σ H xs us Q I rx ⟨F, ds, r, sF, h, e, k⟩
  match ds, h, e with
  | [d], h, e =>
    obtain ⟨v, rfl, hd⟩ := one_d h
    simp only [bip, Option.map_eq_some_iff] at e
    obtain ⟨n, e1, rfl⟩ := e
    cases hq : seqOf d with
    | some xs =>
      obtain ⟨a, vs, rfl, h1, h2, _⟩ := sq_of sF hd hq
      have hn : n = vs.length := by
        rw [← h2.length]
        cases d <;> first | (cases hq; done) | (cases hq; cases e1; rfl)
      subst hn
      exact call_len_seq pins s σ H _ us Q I rx ⟨a, vs, rfl, h1, k _ _ _ (.flat sF rfl)⟩
    | none =>
      cases d <;> first | (cases hq; done) | (cases e1; done) | skip
      simp only [lenD] at e1
      split at e1
      · rename_i z hz
        cases e1
        refine call_len_str pins s σ H _ us Q I rx ⟨⟨z.toArray⟩, by rw [show v = _ from hd], ?_, k _ _ _ (.flat sF ?_)⟩
        · show z.toArray.size ≤ sizeLine
          rw [← LIM_eq]; simpa using hz
        · show V.int ((z.toArray.size : Nat) : Int) = V.int _
          simp
      · cases e1
theorem kept_int {pins : List (Addr × Obj)} {σ : L2.St} {H : Hp} {s : Shared} {Q : VK} {i : Int} (I : Inv X pins σ H s) {h' : Heap} {tk : Nat} {t : Tok} (k : ∀ b o, s.heap.get? b = some o → h'.get? b = some o) (q : Q (.int i) H) : EP X pins σ Q (.int i t) { s with heap := h', toks := tk } :=
  ⟨.int i, H, I.kept k, ⟨_, rfl⟩, q⟩
theorem bi_sum (hc : X.calm = true) : CallR X (.builtin "sum") (rBn X.K (bip .sum)) := by
  intro pins s σ H xs us Q I rx ⟨F, ds, r, sF, h, e, k⟩
  match ds, h, e with
  | [d], h, e =>
    obtain ⟨v, rfl, hd⟩ := one_d h
    simp only [bip, Option.map_eq_some_iff, Option.bind_eq_some_iff] at e
    obtain ⟨ns, ⟨ys, hq, e1⟩, rfl⟩ := e
    obtain ⟨a, vs, rfl, h1, h2, _⟩ := sq_of sF hd hq
    obtain ⟨ev, _⟩ := ints_vs h2 e1
    subst ev
    have q := k _ _ _ (.flat (K := X.K) (v := .int ns.sum) sF rfl)
    rcases h1 with h1 | h1
    · exact cr_sum hc pins s σ H _ us Q I rx ⟨a, ns, rfl, h1, q⟩
    · obtain ⟨its, rv, ht, hz⟩ := I.tuple h1
      rw [Vals.ref1 rx]
      have hi := rv.ints
      obtain ⟨xs, ex⟩ := hi.allInts.items
      have hn : numsOf (intItems xs).toList = ns := by rw [← ex]; exact hi.numsOf
      rw [nums_intItems] at hn
      refine PySem.W.ktm_sumG (I.ok.hd hc) (show s.heap.IsTuple a (intItems xs) by rw [← ex]; exact ht) fun h' tk t' hk => ?_
      rw [preSum_eq, List.take_of_length_le (by simp), hn]
      exact kept_int I hk q
theorem alike_ints (ns : List Int) : PySem.W.AlikeAll (ns.map PyData.int) := by
  refine ⟨fun x hx y hy => ?_, fun x hx => ?_⟩
  · obtain ⟨a, _, rfl⟩ := List.mem_map.mp hx
    obtain ⟨b, _, rfl⟩ := List.mem_map.mp hy
    rfl
  · obtain ⟨a, _, rfl⟩ := List.mem_map.mp hx
    exact fun z => nomatch z
theorem ints_depth : ∀ ns : List Int, PyData.depthAll (ns.map PyData.int) = 0
  | [] => by simp [PyData.depthAll]
  | n :: ns => by simp [PyData.depthAll, PyData.depth, ints_depth ns]
theorem reads_ints {h : Heap} : ∀ {us : List Value} {ns : List Int}, IntsAre us ns → ∃ as, ReadsAll h us (ns.map PyData.int) as
  | _, _, .nil => ⟨[], .nil⟩
  | _, _, .cons n t r => by
    obtain ⟨as, q⟩ := reads_ints (h := h) r
    exact ⟨_, .cons (Reads.int n t) q⟩
theorem bi_minmax (hc : X.calm = true) (hu : X.A.units + 70 < cLine) (b : Bool) : CallR X (.builtin (if b then "min" else "max")) (rBn X.K (bip (if b then .min1 else .max1))) := by
  intro pins s σ H xs us Q I rx ⟨F, ds, r, sF, h, e, k⟩
  match ds, h, e with
  | [], h, e => cases b <;> cases e
  | _ :: _ :: _, h, e => cases b <;> cases e
  | [d], h, e =>
    obtain ⟨v, rfl, hd⟩ := one_d h
    have e' : (((((seqOf d).bind intsD).bind tl1).map (fun (m, r) => RV.val (.int (if b then minI m r else maxI m r)))).or (((seqOf d).bind ordL).map fun (m, r) => RV.val (if b then minOf m r else maxOf m r))) = some r := by cases b <;> exact e
    rcases Option.or_eq_some_iff.mp e' with e' | ⟨_, e'⟩
    case inr =>
      simp only [Option.map_eq_some_iff, Option.bind_eq_some_iff] at e'
      obtain ⟨⟨m, ms⟩, ⟨ys, hq, e1⟩, rfl⟩ := e'
      cases ys with
      | nil => cases e1
      | cons y ys =>
        simp only [ordL] at e1
        split at e1 <;> first | (cases e1; done) | skip
        rename_i hO
        cases e1
        exact minmax_ord hc hu b pins s σ H _ us Q I rx ⟨F, d, m, ms, v, rfl, sF, hd, hq, ordOk_iff hO, k⟩
    simp only [Option.map_eq_some_iff, Option.bind_eq_some_iff] at e'
    obtain ⟨⟨m, ms⟩, ⟨ns, ⟨ys, hq, e1⟩, e2⟩, rfl⟩ := e'
    cases ns with
    | nil => cases e2
    | cons n ns =>
      cases e2
      obtain ⟨a, vs, rfl, h1, h2, _⟩ := sq_of sF hd hq
      obtain ⟨ev, _⟩ := ints_vs h2 e1
      subst ev
      have q := k _ _ _ (.flat (K := X.K) (v := .int (if b then minI m ms else maxI m ms)) sF rfl)
      have hA := I.ok.hd hc
      rw [Vals.ref1 rx]
      have fin : ∀ (its : List Value) (v : Value) (h' : Heap) (tk : Nat) (bs : List Addr) (z : PyData), Reads h' v z bs → z = .int (if b then minI m ms else maxI m ms) → (∀ b o, s.heap.get? b = some o → h'.get? b = some o) → EP X pins σ Q v { s with heap := h', toks := tk } := fun its v h' tk bs z rd hz hk => by
        subst hz
        cases rd with
        | int i t => exact kept_int I hk q
      rcases h1 with h1 | h1
      · obtain ⟨its, rv, ht, hz⟩ := I.list h1
        obtain ⟨as, hr⟩ := reads_ints (h := s.heap) rv.ints
        cases b
        · exact PySem.W.max_list_data hA ht.isList hr (alike_ints (m :: ms)) (by have z := ints_depth (m :: ms); rw [List.map_cons] at z; rw [z]; omega) fun i v h' tk bs hv rd hk => fin its v h' tk bs _ rd (PySem.W.maxD_ints m ms) hk
        · exact PySem.W.min_list_data hA ht.isList hr (alike_ints (m :: ms)) (by have z := ints_depth (m :: ms); rw [List.map_cons] at z; rw [z]; omega) fun i v h' tk bs hv rd hk => fin its v h' tk bs _ rd (PySem.W.minD_ints m ms) hk
      · obtain ⟨its, rv, ht, hz⟩ := I.tuple h1
        obtain ⟨as, hr⟩ := reads_ints (h := s.heap) rv.ints
        cases b
        · exact PySem.W.max_tuple_data hA ht hr (alike_ints (m :: ms)) (by have z := ints_depth (m :: ms); rw [List.map_cons] at z; rw [z]; omega) fun i v h' tk bs hv rd hk => fin its v h' tk bs _ rd (PySem.W.maxD_ints m ms) hk
        · exact PySem.W.min_tuple_data hA ht hr (alike_ints (m :: ms)) (by have z := ints_depth (m :: ms); rw [List.map_cons] at z; rw [z]; omega) fun i v h' tk bs hv rd hk => fin its v h' tk bs _ rd (PySem.W.minD_ints m ms) hk
theorem bi_min2 (hc : X.calm = true) : CallR X (.builtin "min") (rBn X.K (bip .min2)) := by
  intro pins s σ H xs us Q I rx ⟨F, ds, r, sF, h, e, k⟩
  match ds, h, e with
  | [.int i, .int j], h, e =>
    obtain ⟨v, w, rfl, h1, h2⟩ := two_d h
    cases e
    exact call_min2 hc pins s σ H _ us Q I rx ⟨i, j, by rw [show v = _ from h1, show w = _ from h2], k _ _ _ (.flat sF rfl)⟩
theorem bi_max2 (hc : X.calm = true) : CallR X (.builtin "max") (rBn X.K (bip .max2)) := by
  intro pins s σ H xs us Q I rx ⟨F, ds, r, sF, h, e, k⟩
  match ds, h, e with
  | [.int i, .int j], h, e =>
    obtain ⟨v, w, rfl, h1, h2⟩ := two_d h
    cases e
    exact call_max2 hc pins s σ H _ us Q I rx ⟨i, j, by rw [show v = _ from h1, show w = _ from h2], k _ _ _ (.flat sF rfl)⟩
theorem bi_abs : CallR X (.builtin "abs") (rBn X.K (bip .abs)) := by
  intro pins s σ H xs us Q I rx ⟨F, ds, r, sF, h, e, k⟩
  match ds, h, e with
  | [.int i], h, e =>
    obtain ⟨v, rfl, h1⟩ := one_d h
    cases e
    exact call_abs pins s σ H _ us Q I rx ⟨i, by rw [show v = _ from h1], k _ _ _ (.flat sF rfl)⟩
theorem bi_int : CallR X (.type "int") (rBn X.K (bip .int)) := by
  intro pins s σ H xs us Q I rx ⟨F, ds, r, sF, h, e, k⟩
  match ds, h, e with
  | [.int i], h, e =>
    obtain ⟨v, rfl, h1⟩ := one_d h
    cases e
    exact call_int1 pins s σ H _ us Q I rx (.inl ⟨i, by rw [show v = _ from h1], k _ _ _ (.flat sF rfl)⟩)
  | [.bl b], h, e =>
    obtain ⟨v, rfl, h1⟩ := one_d h
    cases e
    exact call_int1 pins s σ H _ us Q I rx (.inr ⟨b, by rw [show v = _ from h1], k _ _ _ (.flat sF (by cases b <;> rfl))⟩)
theorem bi_tuple : CallR X (.type "tuple") (rBn X.K (bip .tuple)) := by
  intro pins s σ H xs us Q I rx ⟨F, ds, r, sF, h, e, k⟩
  match ds, h, e with
  | [d], h, e =>
    obtain ⟨v, rfl, hd⟩ := one_d h
    simp only [bip, Option.map_eq_some_iff] at e
    obtain ⟨ys, hq, rfl⟩ := e
    obtain ⟨a, vs, rfl, h1, h2, h3, h4⟩ := sq_of sF hd hq
    refine call_tuple_of pins s σ H _ us Q I rx ⟨a, vs, rfl, ?_⟩
    by_cases ht : ∃ z, d = .tup z
    · exact .inr ⟨sqT_mono sF (h3 ht), k _ _ _ (.flat sF ⟨a, vs, rfl, h3 ht, h2⟩)⟩
    · exact .inl ⟨h4 fun z e => ht ⟨z, e⟩, fun l hl => k _ _ _ (.tup sF hl h2)⟩
theorem bi_list : CallR X (.type "list") (rBn X.K (bip .list)) := by
  intro pins s σ H xs us Q I rx ⟨F, ds, r, sF, h, e, k⟩
  match ds, h, e with
  | [d], h, e =>
    obtain ⟨v, rfl, hd⟩ := one_d h
    simp only [bip, Option.map_eq_some_iff] at e
    obtain ⟨ys, hq, rfl⟩ := e
    obtain ⟨a, vs, rfl, h1, h2, _⟩ := sq_of sF hd hq
    exact call_list_of pins s σ H _ us Q I rx ⟨a, vs, rfl, h1, fun l hl => k _ _ _ (.lst sF hl h2)⟩
theorem sortI_uniq {a b : List Int} (p : a.Perm b) (s : a.Pairwise (· ≤ ·)) : a = sortI b := by
  have h1 : (sortI b).Perm b := List.mergeSort_perm b _
  have h2 : (sortI b).Pairwise (· ≤ ·) := by
    have := List.pairwise_mergeSort (le := fun a b : Int => decide (a ≤ b)) (fun x y z h1 h2 => by simp at *; omega) (fun x y => by simp; omega) b
    exact this.imp fun h => by simpa using h
  exact List.Perm.eq_of_pairwise (le := fun x y : Int => x ≤ y) (fun x y _ _ h1 h2 => by omega) s h2 (p.trans h1.symm)
theorem bi_sorted (hu : X.A.units + 70 < cLine) : CallR X (.builtin "sorted") (rBn X.K (bip .sorted)) := by
  intro pins s σ H xs us Q I rx ⟨F, ds, r, sF, h, e, k⟩
  match ds, h, e with
  | [d], h, e =>
    obtain ⟨v, rfl, hd⟩ := one_d h
    rcases Option.or_eq_some_iff.mp (show (((lstOf d).bind intsD).map fun l => RV.own ((sortI l).map .int)).or (((lstOf d).bind ordA).map fun l => RV.own (l.mergeSort leO)) = some r from e) with e | ⟨_, e⟩
    case inr =>
      simp only [Option.map_eq_some_iff, Option.bind_eq_some_iff] at e
      obtain ⟨ys, ⟨zs, hq, e1⟩, rfl⟩ := e
      simp only [ordA] at e1
      split at e1 <;> first | (cases e1; done) | skip
      rename_i hO
      cases e1
      exact sorted_ord hu pins s σ H _ us Q I rx ⟨F, d, _, v, rfl, sF, hd, hq, ordOk_iff hO, k⟩
    simp only [Option.map_eq_some_iff, Option.bind_eq_some_iff] at e
    obtain ⟨ns, ⟨ys, hq, e1⟩, rfl⟩ := e
    obtain ⟨a, vs, rfl, h1, h2⟩ := ls_of sF hd hq
    obtain ⟨ev, _⟩ := ints_vs h2 e1
    subst ev
    refine cr_sortedI pins s σ H _ us Q I rx ⟨a, ns, rfl, h1, fun ns' p hp hs hn => ?_⟩
    rw [sortI_uniq hp hs]
    exact k _ _ _ (.lst sF hn (reps_ints _))
theorem bls_vs {K : Frag} {F : Hp} : ∀ {xs : List D} {vs : List V} {bs : List Bool}, Reps K F xs vs → blsD xs = some bs → vs = bs.map V.bl
  | [], vs, bs, r, e => by cases e; exact r
  | x :: xs, vs, bs, r, e => by
    obtain ⟨v, w, rfl, p, q⟩ := r
    cases x <;> first | (cases e; done) | skip
    simp only [blsD, Option.map_eq_some_iff] at e
    obtain ⟨ms, e1, rfl⟩ := e
    rw [show v = V.bl _ from p, bls_vs q e1]
    rfl
theorem bls_reads {h : Heap} : ∀ (bs : List Bool), ∃ as, ReadsAll h (bs.map Value.bool) (bs.map PyData.bool) as
  | [] => ⟨[], .nil⟩
  | b :: bs => by
    obtain ⟨as, q⟩ := bls_reads (h := h) bs
    exact ⟨_, .cons (Reads.bool b) q⟩
theorem bls_plain : ∀ (bs : List Bool), PyData.plainAll (bs.map PyData.bool) = true
  | [] => by simp [PyData.plainAll]
  | b :: bs => by simp [PyData.plainAll, PyData.plain, bls_plain bs]
theorem bls_fits (bs : List Bool) : ∀ x ∈ bs.map PyData.bool, x.fits63 := fun x hx => by
  obtain ⟨b, _, rfl⟩ := List.mem_map.mp hx
  trivial
theorem kept_bl {pins : List (Addr × Obj)} {σ : L2.St} {H : Hp} {s : Shared} {Q : VK} {b c : Bool} (I : Inv X pins σ H s) {h' : Heap} {tk : Nat} (k : ∀ b o, s.heap.get? b = some o → h'.get? b = some o) (q : Q (.bl b) H) (e : c = b) : EP X pins σ Q (.bool c) { s with heap := h', toks := tk } :=
  ⟨.bl b, H, I.kept k, by rw [e]; rfl, q⟩
theorem bi_all (hc : X.calm = true) : CallR X (.builtin "all") (rBn X.K (bip .all)) := by
  intro pins s σ H xs us Q I rx ⟨F, ds, r, sF, h, e, k⟩
  match ds, h, e with
  | [d], h, e =>
    obtain ⟨v, rfl, hd⟩ := one_d h
    simp only [bip, Option.map_eq_some_iff, Option.bind_eq_some_iff] at e
    obtain ⟨bs, ⟨ys, hq, e1⟩, rfl⟩ := e
    obtain ⟨a, vs, rfl, h1, h2, _⟩ := sq_of sF hd hq
    have ev := bls_vs h2 e1
    subst ev
    have q := k _ _ _ (.flat (K := X.K) (v := .bl (bs.all id)) sF rfl)
    rcases h1 with h1 | h1
    · exact cr_all hc pins s σ H _ us Q I rx ⟨a, bs, rfl, h1, q⟩
    · obtain ⟨its, rv, ht, hz⟩ := I.tuple h1
      rw [Vals.ref1 rx]
      have ei := Vals.bls rv
      subst ei
      obtain ⟨as, hr⟩ := bls_reads (h := s.heap) bs
      exact PySem.W.all_tuple_data (I.ok.hd hc) ht hr (bls_plain _) (bls_fits _) fun h' tk hk => kept_bl I hk q (by rw [List.all_map]; congr)
theorem bi_any (hc : X.calm = true) : CallR X (.builtin "any") (rBn X.K (bip .any)) := by
  intro pins s σ H xs us Q I rx ⟨F, ds, r, sF, h, e, k⟩
  match ds, h, e with
  | [d], h, e =>
    obtain ⟨v, rfl, hd⟩ := one_d h
    simp only [bip, Option.map_eq_some_iff, Option.bind_eq_some_iff] at e
    obtain ⟨bs, ⟨ys, hq, e1⟩, rfl⟩ := e
    obtain ⟨a, vs, rfl, h1, h2, _⟩ := sq_of sF hd hq
    have ev := bls_vs h2 e1
    subst ev
    have q := k _ _ _ (.flat (K := X.K) (v := .bl (bs.any id)) sF rfl)
    rcases h1 with h1 | h1
    · exact cr_any hc pins s σ H _ us Q I rx ⟨a, bs, rfl, h1, q⟩
    · obtain ⟨its, rv, ht, hz⟩ := I.tuple h1
      rw [Vals.ref1 rx]
      have ei := Vals.bls rv
      subst ei
      obtain ⟨as, hr⟩ := bls_reads (h := s.heap) bs
      exact PySem.W.any_tuple_data (I.ok.hd hc) ht hr (bls_plain _) (bls_fits _) fun h' tk hk => kept_bl I hk q (by rw [List.any_map]; congr)
theorem bi_gcd : CallR X (.builtin "math.gcd") (rBn X.K (bip .gcd)) := by
  intro pins s σ H xs us Q I rx ⟨F, ds, r, sF, h, e, k⟩
  match ds, h, e with
  | [.int i, .int j], h, e =>
    obtain ⟨v, w, rfl, h1, h2⟩ := two_d h
    cases e
    exact cr_gcd pins s σ H _ us Q I rx ⟨i, j, by rw [show v = _ from h1, show w = _ from h2], k _ _ _ (.flat sF rfl)⟩
/-- isinstance -/
def isiN : Bi → String
  | .isBool => "bool"
  | .isInt => "int"
  | .isStr => "str"
  | _ => "tuple"
def isiB : Bi → Bool
  | .isBool => true
  | .isInt => true
  | .isStr => true
  | .isTuple => true
  | _ => false
theorem bi_isi {b : Bi} (hb : isiB b = true) : CallR X (.builtin "isinstance") (fun xs H Q => ∃ x F d r, xs = [x, .ty (isiN b)] ∧ Same F H ∧ RdD X.K F H x d ∧ bip b [d] = some r ∧ ∀ v F' H', Born X.K F H v r F' H' → Q v H') := by
  intro pins s σ H xs us Q I rx ⟨x, F, d, r, ex, sF, hd, e, k⟩
  subst ex
  obtain ⟨u, w, rfl, r1, r2⟩ := vals2 rx
  obtain rfl : w = Value.type (isiN b) := r2
  obtain ⟨as, rd⟩ := Dp.reads I _ _ _ (rep_Dp _ (hd.rep sF)) r1
  have fin : ∀ {c c' : Bool}, r = .val (.bl c) → c' = c → ∀ tk, EP X pins σ Q (.bool c') { s with toks := tk } := fun e1 e2 tk => by
    subst e1 e2
    exact ⟨.bl _, H, I.tok _, rfl, k _ _ _ (.flat sF rfl)⟩
  cases b <;> first | (cases hb; done) | skip
  · refine PySem.W.isinstance_bool_data rd fun tk _ => fin (Option.some.inj e).symm ?_ tk
    cases d <;> rfl
  · refine PySem.W.isinstance_int_data rd fun tk _ => fin (Option.some.inj e).symm ?_ tk
    cases d <;> rfl
  · refine PySem.W.isinstance_str_data rd fun tk _ => fin (Option.some.inj e).symm ?_ tk
    cases d <;> rfl
  · refine PySem.W.isinstance_tuple_data rd fun tk _ => fin (Option.some.inj e).symm ?_ tk
    cases d <;> rfl
end
end MS

/-! Items, slices, methods, truth. -/
namespace MS
open PySem PySem.Spec PyProof.Rows L2 Mini
section
variable {X : Cx}
theorem ixP_eq (n : Nat) (i : Int) : ixP n i = ixN n i := by
  unfold ixP ixN
  by_cases h : 0 ≤ i
  · rw [if_pos h, if_pos h]
  · rw [if_neg h, if_neg h]
    by_cases h2 : 0 ≤ i + n
    · rw [if_pos h2, if_pos (by omega)]
    · rw [if_neg h2, if_neg (by omega)]
theorem reps_atI {K : Frag} {F : Hp} {ds : List D} {vs : List V} {i : Int} {d : D} (r : Reps K F ds vs) (e : (ixP ds.length i).bind (fun k => ds[k]?) = some d) : ∃ v, atI vs i = some v ∧ Rep K F d v := by
  rw [Option.bind_eq_some_iff] at e
  obtain ⟨k, e1, e2⟩ := e
  obtain ⟨v, h1, h2⟩ := r.get e2
  refine ⟨v, ?_, h2⟩
  unfold atI
  rw [← r.length, ← ixP_eq, e1]
  exact h1
def rIxM (K : Frag) : R2 := fun x y H Q => ∃ F a i d, Same F H ∧ RdD K F H x a ∧ y = .int i ∧ idxD a i = some d ∧ ∀ v, Rep K F d v → Q v H
theorem ix_ok : IxR X (rIxM X.K) := by
  intro va sl pins s σ H x y v u Q I rx ry ⟨F, a, i, d, sF, ha, ey, e, k⟩ hsub
  refine ix_seq va sl pins s σ H x y v u Q I rx ry ?_ hsub
  cases a <;> first | (cases e; done) | skip
  case str z =>
    simp only [idxD] at e
    split at e
    · rename_i hz
      rw [Option.bind_eq_some_iff] at e
      obtain ⟨j, e1, e2⟩ := e
      rw [Option.map_eq_some_iff] at e2
      obtain ⟨c, e3, rfl⟩ := e2
      refine .inr (.inr ⟨⟨z.toArray⟩, i, c, ha, ey, ?_, ?_, k _ rfl⟩)
      · show z.toArray.size ≤ sizeLine
        rw [← LIM_eq]; simpa using hz
      · show atI z i = some c
        unfold atI
        rw [← ixP_eq, e1]; exact e3
    · cases e
  case tup ds =>
    obtain ⟨p, vs, rfl, h1, h2⟩ := tupR ha
    obtain ⟨v, h3, h4⟩ := reps_atI h2 e
    exact .inr (.inl ⟨p, vs, i, v, rfl, ey, sqT_mono sF h1, h3, k _ h4⟩)
  case vl ds =>
    obtain ⟨p, vs, rfl, h1, h2⟩ := ha
    obtain ⟨v, h3, h4⟩ := reps_atI h2 e
    exact .inl ⟨p, vs, i, v, rfl, ey, SqL.of h1, h3, k _ h4⟩
  case fl ds =>
    obtain ⟨p, vs, rfl, h1, h2⟩ := ha
    obtain ⟨v, h3, h4⟩ := reps_atI h2 e
    exact .inl ⟨p, vs, i, v, rfl, ey, sqL_mono sF h1, h3, k _ h4⟩
theorem bnd_eq (n d : Nat) (i : Int) : bnd n i = HT.sIx n d (some i) := by
  show _ = (if i < 0 then (i + (n : Int)).toNat else min i.toNat n)
  unfold bnd
  by_cases h : 0 ≤ i
  · rw [if_pos h, if_neg (by omega)]
  · rw [if_neg h, if_pos (by omega)]
theorem cut_eq {α : Type} (xs : List α) (lo hi : Option Int) : cut xs lo hi = (xs.drop (HT.sIx xs.length 0 lo)).take (HT.sIx xs.length xs.length hi - HT.sIx xs.length 0 lo) := by
  have e1 : bndL xs.length lo = HT.sIx xs.length 0 lo := by cases lo <;> first | rfl | exact bnd_eq _ _ _
  have e2 : bndH xs.length hi = HT.sIx xs.length xs.length hi := by cases hi <;> first | rfl | exact bnd_eq _ _ _
  unfold cut
  rw [e1, e2, List.drop_take]
theorem reps_cut {K : Frag} {F : Hp} {ds : List D} {vs : List V} (r : Reps K F ds vs) (lo hi : Option Int) : Reps K F (cut ds lo hi) (cutV vs lo hi) := by
  rw [cut_eq]
  unfold cutV
  rw [r.length]
  exact (r.drop _).take _
def rSlM (K : Frag) : V → Option Int → Option Int → Hp → VK → Prop := fun x lo hi H Q => ∃ F a r, Same F H ∧ RdD K F H x a ∧ slcD a lo hi = some r ∧ ∀ v F' H', Born K F H v r F' H' → Q v H'
theorem sl_ok : SlR X (rSlM X.K) := by
  intro pins s σ H x v vl vu lo hi sl Q I rx hs pl pu ⟨F, a, r, sF, ha, e, k⟩
  cases a <;> first | (cases e; done) | skip
  case str z =>
    simp only [slcD] at e
    split at e
    · rename_i hz
      cases e
      refine sl_str pins s σ H x v vl vu lo hi sl Q I rx hs pl pu ⟨⟨z.toArray⟩, ha, ?_, k _ _ _ (.flat sF ?_)⟩
      · show z.toArray.size ≤ sizeLine
        rw [← LIM_eq]; simpa using hz
      · show V.str (cutS ⟨z.toArray⟩ lo hi) = V.str ⟨(cut z lo hi).toArray⟩
        rw [cut_eq]
        unfold cutS
        first | rfl | simp | (congr 1; simp)
    · cases e
  case tup ds =>
    cases e
    obtain ⟨p, vs, rfl, h1, h2⟩ := tupR ha
    refine sl_tupA pins s σ H _ v vl vu lo hi sl Q I rx hs pl pu ⟨p, vs, rfl, sqT_mono sF h1, fun hw => k _ _ _ (.flat sF ⟨p, vs, rfl, h1, ?_⟩), fun hw q hq => k _ _ _ (.tup sF hq (reps_cut h2 lo hi))⟩
    have := reps_cut h2 lo hi
    have e0 : cutV vs lo hi = vs := by
      unfold cutV
      rw [hw.1, hw.2, Nat.sub_zero, List.drop_zero, List.take_length]
    rw [e0] at this
    exact this
  case vl ds =>
    cases e
    obtain ⟨p, vs, rfl, h1, h2⟩ := ha
    exact sl_list pins s σ H _ v vl vu lo hi sl Q I rx hs pl pu ⟨p, vs, rfl, SqL.of h1, fun q hq => k _ _ _ (.lst sF hq (reps_cut h2 lo hi))⟩
/-- truth -/
theorem tru_of {K : Frag} {F H : Hp} (s : Same F H) {d : D} {v : V} {k : Bool} (h : RdD K F H v d) (e : truD d = some k) : TruV K v H k := by
  have em : ∀ {xs : List D} {vs : List V}, Reps K F xs vs → (!xs.isEmpty) = !vs.isEmpty := fun {xs vs} r => by
    have := r.length
    cases xs <;> cases vs <;> simp_all
  cases d with
  | non => cases e; rw [show v = _ from h]; exact rfl
  | bl b => cases e; rw [show v = _ from h]; exact rfl
  | int i => cases e; rw [show v = _ from h]; exact rfl
  | str z =>
    simp only [truD] at e
    split at e
    · rename_i hz
      cases e
      rw [show v = _ from h]
      refine ⟨?_, ?_⟩
      · show z.toArray.size ≤ sizeLine
        rw [← LIM_eq]; simpa using hz
      · show _ = (((z.toArray.size : Nat) : Int) != 0)
        cases z with
        | nil => rfl
        | cons a r =>
          have : (((r.length + 1 : Nat) : Int) != 0) = true := by rw [bne_iff_ne]; omega
          simpa using this.symm
    · cases e
  | tup ds =>
    cases e
    obtain ⟨p, vs, rfl, h1, h2⟩ := tupR h
    exact .inr (.inl ⟨vs, sqT_mono s h1, em h2⟩)
  | vl ds =>
    cases e
    obtain ⟨p, vs, rfl, h1, h2⟩ := h
    exact .inl ⟨vs, SqL.of h1, em h2⟩
  | fl ds =>
    cases e
    obtain ⟨p, vs, rfl, h1, h2⟩ := h
    exact .inl ⟨vs, sqL_mono s h1, em h2⟩
/-- list.index -/
theorem index_at (x : D) : ∀ (ys : List D) (k : Nat), indexD x ys = some k → ∃ z, (toPys ys)[k]? = some z ∧ PyData.eqv z (toPy x) = true ∧ ∀ (m : Nat) (z' : PyData), m < k → (toPys ys)[m]? = some z' → PyData.eqv z' (toPy x) = false
  | [], k, e => nomatch e
  | y :: ys, k, e => by
    simp only [indexD] at e
    split at e
    · rename_i h
      cases e
      exact ⟨toPy y, rfl, by rw [eqv_toPy]; exact h, fun m z' hm => absurd hm (Nat.not_lt_zero _)⟩
    · rename_i h
      rw [Option.map_eq_some_iff] at e
      obtain ⟨j, e1, rfl⟩ := e
      obtain ⟨z, h1, h2, h3⟩ := index_at x ys j e1
      refine ⟨z, h1, h2, fun m z' hm hz => ?_⟩
      cases m with
      | zero =>
        cases hz
        rw [eqv_toPy]
        simpa using h
      | succ m => exact h3 m z' (by omega) hz
end
end MS

/-! Expressions: the readings, and the rules one by one. -/
namespace MS
open PySem PySem.Spec PyProof.Rows L2 Mini
theorem _root_.L2.PE.imp {X : Cx} {e : Expr} {t t' : TE} (h : PE X e t) (q : ∀ σ H Q, t' σ H Q → t σ H Q) : PE X e t' := ⟨fun pins s σ H Q I w => h.run pins s σ H Q I (q σ H Q w)⟩
theorem _root_.L2.PT.imp {X : Cx} {e : Expr} {t t' : TT} (h : PT X e t) (q : ∀ σ H Q, t' σ H Q → t σ H Q) : PT X e t' := ⟨fun pins s σ H Q I w => h.run pins s σ H Q I (q σ H Q w)⟩
theorem _root_.L2.PW.imp {X : Cx} {e : Expr} {t t' : TT} (h : PW X e t) (q : ∀ σ H Q, t' σ H Q → t σ H Q) : PW X e t' := ⟨fun wh pins s σ H Q I w => h.run wh pins s σ H Q I (q σ H Q w)⟩
theorem _root_.L2.PA.imp {X : Cx} {e : List Expr} {t t' : TA} (h : PA X e t) (q : ∀ σ H Q, t' σ H Q → t σ H Q) : PA X e t' := ⟨fun pos pins s σ H Q I w => h.run pos pins s σ H Q I (q σ H Q w)⟩
theorem _root_.L2.PE.or {X : Cx} {e : Expr} {t u : TE} (h : PE X e t) (g : PE X e u) : PE X e (fun σ H Q => t σ H Q ∨ u σ H Q) :=
  ⟨fun pins s σ H Q I w => w.elim (h.run pins s σ H Q I) (g.run pins s σ H Q I)⟩

section
variable {K : Frag} {H0 H1 F1 F2 H2 : Hp} {env0 env1 env2 : Mini.Env} {σ : L2.St} {v : V} {r : RV} {F0 : Hp}
/-- a result stays what it is while later parts run -/
theorem later (q : RR K H0 F1 H1 env1 σ v r) (x : Ext env1 σ F1 H1 env2 σ F2 H2) : RR K H0 F2 H2 env2 σ v r := by
  cases r with
  | val d => exact Rep.mono x.mono d q
  | own ds =>
    obtain ⟨a, vs, e, h0, hF, hH, r, no⟩ := q
    refine ⟨a, vs, e, h0, ?_, x.keep a _ hH fun i c => no i c.own, Reps.mono x.mono _ r, fun i o => ?_⟩
    · cases z : F2 a with
      | none => rfl
      | some u =>
        rcases x.fnew a u z with w | w | ⟨i, w⟩
        · rw [hF] at w; cases w
        · rw [hH] at w; cases w
        · exact absurd w.own (no i)
    · rcases x.onew i a o with w | w
      · exact no i w
      · rw [hH] at w; cases w
  | ref i => exact q
theorem back (q : RR K H1 F2 H2 env2 σ v r) (x : Ext env0 σ F0 H0 env1 σ F1 H1) : RR K H0 F2 H2 env2 σ v r := by
  cases r with
  | val d => exact q
  | own ds =>
    obtain ⟨a, vs, e, h0, r⟩ := q
    exact ⟨a, vs, e, x.free h0, r⟩
  | ref i => exact q
end

/-! ### what a def promises -/
def spF (K : Frag) (Φ : Calls) (f : Nat) : Sp := fun vs H Q _ => ∃ F bs r bs', RE K F H bs (vs.map some) ∧ Φ f bs = some (r, bs') ∧
  ∀ v F' H', RE K F' H' bs' (vs.map some) → Ext bs (vs.map some) F H bs' (vs.map some) F' H' → RR K H F' H' bs' (vs.map some) v r → Q v H'

def biNames : List Str := ["len", "sum", "min", "max", "abs", "int", "tuple", "list", "sorted", "all", "any", "isinstance", "bool", "str", "range"]
/-- what is known where a piece of the text runs -/
structure Ok (c : Cfg) (G : List D) (Φ : Calls) (k : Nat) (X : Cx) (sc : Scope) : Prop where
  hN : X.N = c.N
  nd : c.N.Nodup
  nm : ∀ x ∈ c.N, (x == ("__debug__" : Str)) = false ∧ (x == ("__classdict__" : Str)) = false
  calm : X.calm = true
  scope : X.env.scope = sc
  bi : ∀ x ∈ biNames, X.mg x = none
  gcd : c.gcd = true → X.mg "gcd" = some (.builtin "math.gcd")
  room : Room k X.A
  fs : ∀ (f : Nat) (x : Str), c.FT[f]? = some x → ∃ a fd ps, X.mg x = some (.ref a) ∧ PySem.W.keepIn X.K (.ref a) = true ∧ Binds X.K fd ps [] ∧ FnOk X.prog X.w X.K X.mg X.base CX0 k a fd ps (spF X.K Φ f) ∧ (x == ("__debug__" : Str)) = false
  cs : ∀ (i : Nat) (x : Str) (d : D), c.GT[i]? = some x → G[i]? = some d → ∃ u v, X.mg x = some u ∧ RelV v u ∧ Rep X.K (fun _ => none) d v ∧ (x == ("__debug__" : Str)) = false

/-! ### the readings -/
section
variable (K : Frag) (G : List D) (Φ : Calls)
def tX (m : E) : TE := fun σ H Q => ∃ env F r env', RE K F H env σ ∧ evX G Φ m false env = some (r, env') ∧
  ∀ v F' H', RE K F' H' env' σ → Ext env σ F H env' σ F' H' → RR K H F' H' env' σ v r → Q v H'
def tT (m : E) : TT := fun σ H Q => ∃ env F k env', RE K F H env σ ∧ tst (evX G Φ m true env) = some (k, env') ∧
  ∀ F' H', RE K F' H' env' σ → Ext env σ F H env' σ F' H' → Q k H'
/-- results side by side: new lists stand apart -/
def RRs (H0 F H : Hp) (env : Mini.Env) (σ : L2.St) : List V → List RV → Prop
  | [], [] => True
  | v :: vs, r :: rs => RR K H0 F H env σ v r ∧ RRs H0 F H env σ vs rs ∧ ∀ ds, r = .own ds → ∀ (j : Nat) (ds' : List D), rs[j]? = some (.own ds') → vs[j]? ≠ some v
  | _, _ => False
def tRs (es : Es) : TA := fun σ H Q => ∃ env F rs env', RE K F H env σ ∧ evRs G Φ es env = some (rs, env') ∧
  ∀ vs F' H', RE K F' H' env' σ → Ext env σ F H env' σ F' H' → RRs K H F' H' env' σ vs rs → Q vs H'
def tVs (es : Es) : TA := fun σ H Q => ∃ env F ds env', RE K F H env σ ∧ evVs G Φ es env = some (ds, env') ∧
  ∀ vs F' H', RE K F' H' env' σ → Ext env σ F H env' σ F' H' → Reps K F' ds vs → Q vs H'
def tBV (ev : Mini.Env → Option (Bool × Mini.Env)) : TE := fun σ H Q => ∃ env F k env', RE K F H env σ ∧ ev env = some (k, env') ∧
  ∀ F' H', RE K F' H' env' σ → Ext env σ F H env' σ F' H' → Q (.bl k) H'
def tBT (ev : Mini.Env → Option (Bool × Mini.Env)) : TT := fun σ H Q => ∃ env F k env', RE K F H env σ ∧ ev env = some (k, env') ∧
  ∀ F' H', RE K F' H' env' σ → Ext env σ F H env' σ F' H' → Q k H'
end
section
variable {c : Cfg} {G : List D} {Φ : Calls} {k : Nat} {X : Cx} {sc : Scope}
theorem isAt_get {l : List Str} {i : Nat} {x : Str} (h : isAt l i x = true) : l[i]? = some x := by
  unfold isAt at h
  split at h
  · rename_i y e
    rw [e, of_decide_eq_true h]
  · cases h
theorem Ok.at_ (O : Ok c G Φ k X sc) {i : Nat} {x : Str} (h : isAt c.N i x = true) : X.N[i]? = some x := by rw [O.hN]; exact isAt_get h
theorem Ok.vis (O : Ok c G Φ k X sc) {x : Str} (h : visB sc x = true) : Vis X.env.scope x := by
  rw [O.scope]
  unfold visB at h
  split at h
  · exact .inl (by assumption)
  · exact .inr (.inl (by assumption))
  · exact .inr (.inr (by assumption))
  · cases h
theorem Ok.loc (O : Ok c G Φ k X sc) {x : Str} (h : locB sc x = true) : Loc X.env.scope x := by
  rw [O.scope]
  unfold locB at h
  split at h
  · exact .inl (by assumption)
  · exact .inr (by assumption)
  · cases h
theorem Ok.gl (O : Ok c G Φ k X sc) {x : Str} (h : glB sc x = true) : Gl X x := by
  show X.env.scope.names.lookup x = some .globalImplicit
  rw [O.scope]
  unfold glB at h
  split at h
  · assumption
  · cases h
theorem Ok.dbg (O : Ok c G Φ k X sc) {i : Nat} {x : Str} (h : X.N[i]? = some x) : (x == ("__debug__" : Str)) = false ∧ (x == ("__classdict__" : Str)) = false := by
  rw [O.hN] at h
  exact O.nm x (List.mem_of_getElem? h)
theorem Ok.nodup (O : Ok c G Φ k X sc) : X.N.Nodup := by rw [O.hN]; exact O.nd
theorem Ok.units (O : Ok c G Φ k X sc) : X.A.units + 70 < cLine := by have := O.room.un; omega

abbrev SE (X : Cx) (G : List D) (Φ : Calls) (e : Expr) (m : E) : Prop := PE X e (tX X.K G Φ m)
abbrev ST (X : Cx) (G : List D) (Φ : Calls) (e : Expr) (m : E) : Prop := PT X e (tT X.K G Φ m)

theorem fin_f (o : Option (RV × Mini.Env)) : fin false o = o := rfl
theorem fin_t {o : Option (RV × Mini.Env)} {k : Bool} {env' : Mini.Env} (h : tst (fin true o) = some (k, env')) : ∃ r x, o = some (r, env') ∧ pk env' r = some x ∧ truD x = some k := by
  simp only [tst, fin, if_true, Option.bind_eq_some_iff, Option.map_eq_some_iff] at h
  obtain ⟨⟨r', e'⟩, ⟨⟨r, e⟩, h1, x, h2, k', h3, h4⟩, k2, h5, h6⟩ := h
  cases h4
  cases h6
  cases h5
  exact ⟨r, x, h1, h2, h3⟩
/-- a value's truth -/
theorem st_of {e : Expr} {m : E} (he : ∀ whole, isTrue e X.env whole = (do let v ← whole; standAt e.pos; holding [v] (truthy v))) (hm : ∀ env, evX G Φ m true env = fin true (evX G Φ m false env)) (h : SE X G Φ e m) : ST X G Φ e m :=
  (pt_truth h he).imp fun σ H Q ⟨env, F, k, env', hre, hev, q⟩ => by
    rw [hm] at hev
    obtain ⟨r, x, h1, h2, h3⟩ := fin_t hev
    exact ⟨env, F, r, env', hre, h1, fun v F' H' re' x' q' => ⟨k, tru_of re'.sub (pk_ok re' q' h2) h3, q F' H' re' x'⟩⟩
/-- a comparison's answer, from its value's reading -/
theorem st_cmp {e : Expr} {m : E} (hm : ∀ env, evX G Φ m true env = fin true (evX G Φ m false env)) (hb : ∀ env r env', evX G Φ m false env = some (r, env') → ∃ b, r = .val (.bl b)) (h : PT X e (tTest (tX X.K G Φ m))) : ST X G Φ e m :=
  h.imp fun σ H Q ⟨env, F, k, env', hre, hev, q⟩ => by
    rw [hm] at hev
    obtain ⟨r, x, h1, h2, h3⟩ := fin_t hev
    obtain ⟨b, rfl⟩ := hb _ _ _ h1
    cases h2
    cases h3
    exact ⟨env, F, .val (.bl k), env', hre, h1, fun v F' H' re' x' q' => ⟨k, q', q F' H' re' x'⟩⟩

/-! ### one by one -/
theorem x_const {e : Expr} {m : E} {d : D} {v : V} (h : PE X e (tC v)) (hv : ∀ F, Rep X.K F d v) (he : ∀ env, evX G Φ m false env = some (.val d, env)) : SE X G Φ e m :=
  h.imp fun σ H Q ⟨env, F, r, env', hre, hev, q⟩ => by
    rw [he] at hev
    cases hev
    exact q v F H hre .refl (hv F)
theorem x_var (O : Ok c G Φ k X sc) {i : Nat} {x : Str} {pos : Pos} (h : isAt c.N i x = true) (hv : visB sc x = true) : SE X G Φ (.Name x pos) (.var i) := by
  have hN := O.at_ h
  refine PE.imp (pe_var hN (O.vis hv) (O.dbg hN).1 (O.dbg hN).2) fun σ H Q ⟨env, F, r, env', hre, hev, q⟩ => ?_
  simp only [evX, fin_f] at hev
  split at hev
  · cases hev
  · rename_i d hg
    cases hev
    obtain ⟨v, h1, h2⟩ := hre.val hg
    exact ⟨v, h1, q v F H hre .refl h2⟩
  · rename_i b hg1 hg2
    cases hev
    have s := hre.slot i
    generalize hb : Mini.get env i = b at s
    cases b with
    | no => exact absurd hb hg1
    | val d => exact absurd hb (hg2 d)
    | cell ds =>
      obtain ⟨a, vs, e1, _⟩ := s
      exact ⟨_, e1, q _ F H hre .refl e1⟩
    | lock ds =>
      obtain ⟨a, vs, e1, _⟩ := s
      exact ⟨_, e1, q _ F H hre .refl e1⟩
theorem x_gl (O : Ok c G Φ k X sc) {i : Nat} {x : Str} {pos : Pos} (h : isAt c.GT i x = true) (hv : glB sc x = true) : SE X G Φ (.Name x pos) (.gl i) := by
  cases hd : G[i]? with
  | none =>
    refine ⟨fun pins s σ H Q I ⟨env, F, r, env', hre, hev, q⟩ => ?_⟩
    simp only [evX, fin_f, hd] at hev
    cases hev
  | some d =>
    obtain ⟨u, v, h1, h2, h3, h4⟩ := O.cs i x d (isAt_get h) hd
    refine x_const (pe_glob (O.gl hv) h1 h2 h4) (fun F => Rep.mono (fun _ _ z => by cases z) d h3) fun env => ?_
    simp only [evX, fin_f, hd]
    rfl
theorem x_bin {op : Bop} {o : Operator} {ea eb : Expr} {a b : E} {pos : Pos} (ho : bopB op o = true) (ha : SE X G Φ ea a) (hb : SE X G Φ eb b) : SE X G Φ (.BinOp ea o eb pos) (.bin op a b) := by
  refine PE.imp (pe_op (bin_ok ho) ha hb) fun σ H Q ⟨env, F, r, env', hre, hev, q⟩ => ?_
  simp only [evX, fin_f, Option.bind_eq_some_iff, Option.map_eq_some_iff] at hev
  obtain ⟨⟨ra, e1⟩, h1, ⟨rb, e2⟩, h2, x, h3, y, h4, r', h5, h6⟩ := hev
  cases h6
  refine ⟨env, F, ra, e1, hre, h1, fun v1 F1 H1 re1 x1 q1 => ⟨e1, F1, rb, e2, re1, h2, fun v2 F2 H2 re2 x2 q2 => ⟨F2, x, y, r, re2.sub, pk_ok re2 (later q1 x2) h3, pk_ok re2 q2 h4, h5, fun v F' H' b => ?_⟩⟩⟩
  obtain ⟨re3, x3, q3⟩ := b.go re2
  exact q v F' H' re3 ((x1.trans x2).trans x3) (back q3 (x1.trans x2))
theorem x_neg {ea : Expr} {a : E} {pos : Pos} (ha : SE X G Φ ea a) : SE X G Φ (.UnaryOp .USub ea pos) (.neg a) := by
  refine PE.imp (pe_un un_neg ha) fun σ H Q ⟨env, F, r, env', hre, hev, q⟩ => ?_
  simp only [evX, fin_f, Option.bind_eq_some_iff] at hev
  obtain ⟨⟨ra, e1⟩, h1, h2⟩ := hev
  refine ⟨env, F, ra, e1, hre, h1, fun v1 F1 H1 re1 x1 q1 => ?_⟩
  dsimp only at h2
  split at h2
  · rename_i i
    cases h2
    exact ⟨i, q1, q _ F1 H1 re1 x1 rfl⟩
  · cases h2
theorem x_not {ea : Expr} {a : E} {pos : Pos} (ha : SE X G Φ ea a) : SE X G Φ (.UnaryOp .Not ea pos) (.not a) := by
  refine ⟨fun pins s σ H Q I ⟨env, F, r, env', hre, hev, q⟩ => ?_⟩
  simp only [evX, Bool.false_eq_true, if_false, Option.bind_eq_some_iff, Option.map_eq_some_iff] at hev
  obtain ⟨⟨ra, e1⟩, h1, x, h2, k', h3, h4⟩ := hev
  cases h4
  refine UnaryOp_ (thn (ha.run pins s σ H (fun v H' => TruV X.K v H' k' ∧ Q (.bl (!k')) H') I ⟨env, F, ra, e1, hre, h1, fun v1 F1 H1 re1 x1 q1 => ⟨tru_of re1.sub (pk_ok re1 q1 h2) h3, q _ F1 H1 re1 x1 rfl⟩⟩) fun v s1 ⟨x, H1, I1, r1, t1, q1⟩ => ?_)
  exact not_of (thn (tru_ok pins s1 σ H1 x v (fun k H2 => k = k' ∧ Q (.bl (!k')) H2) I1 r1 ⟨k', t1, rfl, q1⟩) fun b s2 ⟨H2, I2, e2, q2⟩ => ⟨.bl (!b), H2, I2, rfl, by rw [e2]; exact q2⟩)
theorem t_not {ea : Expr} {a : E} {pos : Pos} (ha : ST X G Φ ea a) : ST X G Φ (.UnaryOp .Not ea pos) (.not a) := by
  refine PT.imp (pt_not ha) fun σ H Q ⟨env, F, r, env', hre, hev, q⟩ => ?_
  simp only [evX, if_true] at hev
  cases he : tst (evX G Φ a true env) with
  | none => rw [he] at hev; cases hev
  | some p =>
    rw [he] at hev
    obtain ⟨k1, e1⟩ := p
    cases hev
    exact ⟨env, F, k1, e1, hre, he, fun F1 H1 re1 x1 => q F1 H1 re1 x1⟩
theorem cmp_bl {op : Cop} {a b : E} : ∀ env r env', evX G Φ (.cmp op a b) false env = some (r, env') → ∃ z, r = .val (.bl z) := fun env r env' h => by
  simp only [evX, fin_f, Option.bind_eq_some_iff, Option.map_eq_some_iff] at h
  obtain ⟨_, _, _, _, _, _, _, _, z, _, h⟩ := h
  cases h
  exact ⟨z, rfl⟩
/-- of a plain kind: no star, no slice, no set -/
def plX : Expr → Bool
  | .Starred .. => false
  | .Slice .. => false
  | .Set .. => false
  | .SetComp .. => false
  | .DictComp .. => false
  | _ => true
theorem chk_pl {m : E} {sc : Scope} {e : Expr} (h : chkE c m sc e = true) : plX e = true := by
  unfold chkE at h
  cases e <;> first
    | rfl
    | (exfalso; revert h; (repeat' split) <;> simp_all)
theorem nomark_pl {e : Expr} (h : plX e = true) (o : CmpOp) : behindInMarks o e = false := by
  cases e <;> first | rfl | (cases h; done)
theorem last_pl {e e' : Expr} (h : plX e = true) (h' : plX e' = true) (o o' : CmpOp) : lastMarks [o, o'] [e, e'] = false := by
  simp only [lastMarks]
  exact nomark_pl h' o'
theorem star_pl {e : Expr} {es : List Expr} {v : PySem.Env} (h : plX e = true) : starEach (e :: es) v = (false, eval e v) :: starEach es v := by
  cases e <;> first | rfl | (cases h; done)
theorem plainIx_pl {e : Expr} (h : plX e = true) : PlainIx e := by
  intro o i
  cases e <;> first | rfl | (cases h; done)
theorem noFold_pl {e : Expr} {v : PySem.Env} (h : plX e = true) (x : Value) : foldedSetIterable e v x = pure x := by
  cases e <;> first | rfl | (cases h; done)
end
end MS

set_option maxHeartbeats 4000000
namespace MS
open PySem PySem.Spec PyProof.Rows L2 HT
section
variable {prog : Program} {w : World} {A : Around} {E : Value → Shared → Prop} {s : Shared}
theorem sliceApplied_rev {sl : Addr} {vl vu vs : Value} {n : Nat} {Q : Int × Int × Nat → Shared → Prop} (hs : s.heap.IsSliceOf sl vl vu vs) (pl : IsPart vl none) (pu : IsPart vu none) (ps : IsPart vs (some (-1)))
    (h : Q ((n : Int) - 1, -1, n) s) : wpAny (model prog w) A (Builtin.Slice.sliceApplied (.ref sl) (pure (n : Int))) Q E s := by
  obtain ⟨os, hos, hcs, hds⟩ := id hs
  unfold Builtin.Slice.sliceApplied Builtin.Slice.sliceFields
  refine wpAny_bind (wpAny_bind (wpAny_field hos hds (x := vl) rfl (wpAny_bind (wpAny_field hos hds (x := vu) rfl (wpAny_bind (wpAny_field hos hds (x := vs) rfl (wpAny_pure ?_)))))))
  refine wpAny_bind (slicePart_ ps ?_)
  show wpAny _ _ (if ((-1 : Int) == 0) = true then _ else _) _ _ s
  rw [if_neg (by decide)]
  refine wpAny_bind (slicePart_ pl (wpAny_bind (slicePart_ pu (wpAny_bind (wpAny_pure ?_)))))
  show wpAny _ _ (pure ((n : Int) - 1, (-1 : Int), Builtin.Slice.slicePlaces ((n : Int) - 1) (-1) (-1))) _ _ s
  have e : Builtin.Slice.slicePlaces ((n : Int) - 1) (-1) (-1) = n := by
    unfold Builtin.Slice.slicePlaces
    rw [if_neg (by decide)]
    split
    · rw [show (-(-1) : Int) = 1 by decide, Int.ediv_one]; omega
    · omega
  rw [e]
  exact wpAny_pure h
theorem fm_congr {α β : Type} {f g : α → Option β} : ∀ {l : List α}, (∀ a ∈ l, f a = g a) → l.filterMap f = l.filterMap g
  | [], _ => rfl
  | a :: l, h => by
    rw [List.filterMap_cons, List.filterMap_cons, h a (List.mem_cons_self ..), fm_congr fun b hb => h b (List.mem_cons_of_mem _ hb)]
theorem pick_rev (xs : Array Value) : ((List.range xs.size).filterMap fun (m : Nat) => xs[(((xs.size : Int) - 1) + (m : Int) * -1).toNat]?).toArray = xs.toList.reverse.toArray := by
  have h := PySem.W.krv_all xs
  have e := PySem.W.krv_range xs.size
  have : (List.range xs.size).reverse.filterMap (xs[·]?) = xs.toList.reverse := by rw [List.filterMap_reverse, h]
  rw [← this, ← e, List.filterMap_map]
  congr 1
  refine fm_congr ?_
  intro k hk
  have := List.mem_range.mp hk
  show _ = xs[xs.size - 1 - k]?
  congr 1
  omega
theorem getItem_tuple_rev {t sl : Addr} {items : Array Value} {vl vu vs : Value} {Q : Value → Shared → Prop} (ht : IsTup s.heap t items) (hs : s.heap.IsSliceOf sl vl vu vs) (pl : IsPart vl none) (pu : IsPart vu none) (ps : IsPart vs (some (-1)))
    (h : Q (.ref s.heap.objs.size) { s with heap := s.heap.push { cls := .type "tuple", data := .seq items.toList.reverse.toArray } })
    (hsz : items.size ≤ sizeLine) : wpAny (model prog w) A (getItem (.ref t) (.ref sl)) Q E s := by
  have htake : sizeOk (.seq items.toList.reverse.toArray) := by
    show items.toList.reverse.toArray.size ≤ sizeLine
    rw [List.size_toArray, List.length_reverse, Array.length_toList]
    exact hsz
  obtain ⟨os, hos, hcs, hds⟩ := id hs
  have hTs : s.TypeIs (.ref sl) "slice" := ⟨os, hos, hcs⟩
  unfold getItem
  try with_reducible refine wpAny_holding ?_
  first | refine wpAny_bind (wpAny_pure ?_) | skip
  refine wpAny_bind (wpAny_sequenceKey ht.typeIs (by decide) ?_)
  refine wpAny_bind (wpAny_callSpecial?_slot (name := Str.ofString "__getitem__") ht.typeIs PyProof.Rows.slot_tuple_getitem
    (wpAny_call_entry PyProof.Rows.slot_tuple_getitem ht.typeIs entry_tuple_getitem ?_ (args_tuple_getitem _ _)))
  show wpAny _ _ (Builtin.Tuple.tupleItemsOf (.ref t) >>= _) _ _ s
  refine wpAny_bind (tupleItemsOf_ ht ?_)
  refine wpAny_bind (wpAny_typeOf hTs ?_)
  rw [if_pos (by decide)]
  refine wpAny_bind (sliceApplied_rev hs pl pu ps ?_)
  have hno : ¬ ((((items.size : Int) - 1) == 0 && (-1 : Int) == 1 && items.size == items.size) = true) := by
    rw [show ((-1 : Int) == 1) = false by decide, Bool.and_false, Bool.false_and]
    exact Bool.false_ne_true
  show wpAny _ _ (if (((items.size : Int) - 1) == 0 && (-1 : Int) == 1 && items.size == items.size) = true then _ else _) _ _ s
  rw [if_neg hno, pick_rev]
  first
    | exact wpAny_bind (m := Builtin.Tuple.tupleExact _) (wpAny_newObj_type (wpAny_pure ⟨_, rfl, wpAny_pure h⟩) htake)
    | exact wpAny_bind (m := Builtin.Tuple.tupleExact _) (wpAny_newObj_type (wpAny_bind (wpAny_pure (wpAny_pure ⟨_, rfl, wpAny_pure h⟩))) htake)
    | exact wpAny_bind (wpAny_bind (m := Builtin.Tuple.tupleExact _) (wpAny_newObj_type (wpAny_pure (wpAny_pure ⟨_, rfl, wpAny_pure h⟩)) htake))
    | exact wpAny_bind (wpAny_bind (m := Builtin.Tuple.tupleExact _) (wpAny_newObj_type (wpAny_pure ⟨_, rfl, wpAny_pure h⟩) htake))
end
section
variable {X : Cx}
/-- a row the other way round: of a list a new list, of a tuple a new tuple -/
def tRevA (K : PySem.W.Frag) (te : TE) : TE := fun σ H Q => te σ H fun x H1 =>
  (∃ a xs, x = .ref a ∧ L2.SqL K H1 a xs ∧ ∀ p, H1 p = none → Q (.ref p) (upd H1 p (.lst xs.reverse))) ∨
  (∃ a xs, x = .ref a ∧ L2.SqT K H1 a xs ∧ ∀ p, H1 p = none → Q (.ref p) (upd H1 p (.tup xs.reverse)))
theorem pe_revA {e : Expr} {te : TE} {k : Nat} {p1 p2 p3 pos : Pos} (he : PE X e te) : PE X (.Subscript e (.Slice none none (some (.UnaryOp .USub (.Constant (.int 1) k p1) p2)) p3) pos) (tRevA X.K te) := by
  refine ⟨fun pins s σ H Q I h => ?_⟩
  refine Subscript_ (thn (he.run pins s σ H _ I h) fun v s1 ⟨x, H1, I1, r1, q1⟩ => ?_)
  have hst : PO X (some (.UnaryOp .USub (.Constant (.int 1) k p1) p2)) (tPart (tUn (rU fun i => .int (-i)) (tC (.int 1)))) := po_some (pe_un un_neg pe_int)
  refine wpAny_Slice (thn (po_none.run pins s1 σ H1 (fun o H2 => o = none ∧ H2 = H1) I1 ⟨rfl, rfl⟩) fun vl s2 ⟨l, H2, I2, pl, el, e2⟩ => ?_)
  subst el e2
  refine thn (po_none.run pins s2 σ H2 (fun o H3 => o = none ∧ H3 = H2) I2 ⟨rfl, rfl⟩) fun vu s3 ⟨u, H3, I3, pu, eu, e3⟩ => ?_
  subst eu e3
  refine thn (hst.run pins s3 σ H3 (fun o H4 => o = some (-1) ∧ H4 = H3) I3 ⟨1, rfl, -1, rfl, rfl, rfl⟩) fun vs s4 ⟨o, H4, I4, ps, eo, e4⟩ => ?_
  subst eo e4
  have I5 : Inv X pins σ H4 { s4 with heap := s4.heap.push { cls := .type "slice", data := .fields #[vl, vu, vs] } } := I4.kept (t' := s4.toks) fun b ob q => Heap.get?_push_of_some _ q
  rcases q1 with q1 | q1
  · obtain ⟨a, xs, ex, hx, q⟩ := q1
    subst ex
    cases r1
    obtain ⟨its, r, ht, hz⟩ := I5.list hx
    have hlen := r.length
    show wpAny (model X.prog X.w) X.A (subscriptTail e (.Slice none none (some (.UnaryOp .USub (.Constant (.int 1) k p1) p2)) p3) (.ref a) (.ref s4.heap.objs.size)) (EP X pins σ Q) X.xe { s4 with heap := s4.heap.push { cls := .type "slice", data := .fields #[vl, vu, vs] } }
    refine tail_any (ops := [.ref a, .ref s4.heap.objs.size]) ht.isList.typeIs (PySem.slot_list_getitem.lookup) ?_ (by with_unfolding_all rfl)
    refine wpAny_getItem_list_slice ht.isList (Heap.IsSliceOf.new _ vl vu vs) pl pu ps (by decide) ?_ (by rw [List.size_toArray]; omega)
    rw [PySem.W.krv_pick]
    refine ⟨.ref _, _, I5.laid (t' := s4.toks) (o := .lst xs.reverse) (fun b ob q => Heap.get?_push_of_some _ q) (Nat.le_refl _) ?_, rfl, q _ (I5.hok.fresh (Nat.le_refl _))⟩
    exact ⟨by rw [List.length_reverse]; exact hz, _, 0, r.reverse, Heap.get?_push_size _ rfl⟩
  · obtain ⟨a, xs, ex, hx, q⟩ := q1
    subst ex
    cases r1
    obtain ⟨its, r, ht, hz⟩ := I5.tuple hx
    have hlen : its.toArray.size = xs.length := by rw [List.size_toArray]; exact r.length.symm
    show wpAny (model X.prog X.w) X.A (subscriptTail e (.Slice none none (some (.UnaryOp .USub (.Constant (.int 1) k p1) p2)) p3) (.ref a) (.ref s4.heap.objs.size)) (EP X pins σ Q) X.xe { s4 with heap := s4.heap.push { cls := .type "slice", data := .fields #[vl, vu, vs] } }
    refine tail_any (ops := [.ref a, .ref s4.heap.objs.size]) ht.typeIs (PyProof.Rows.slot_tuple_getitem.lookup) ?_ (by with_unfolding_all rfl)
    refine getItem_tuple_rev ht (Heap.IsSliceOf.new _ vl vu vs) pl pu ps ?_ (by rw [hlen]; exact hz)
    refine ⟨.ref _, _, I5.laid (t' := s4.toks) (o := .tup xs.reverse) (fun b ob q => Heap.get?_push_of_some _ q) (Nat.le_refl _) ?_, rfl, q _ (I5.hok.fresh (Nat.le_refl _))⟩
    exact ⟨by rw [List.length_reverse]; exact hz, _, r.reverse, IsTup.new _ _⟩
end
end MS

/-! Expressions: lists of them, comparisons, and, or, displays, subscripts. -/
namespace MS
open PySem PySem.Spec PyProof.Rows L2 Mini

section
variable {c : Cfg} {G : List D} {Φ : Calls} {k : Nat} {X : Cx} {sc : Scope}

/-- term by term -/
inductive All2 (X : Cx) (G : List D) (Φ : Calls) : List Expr → Es → Prop where
  | nil : All2 X G Φ [] .nil
  | cons {e : Expr} {m : E} {es : List Expr} {ms : Es} (pl : plX e = true) (he : SE X G Φ e m) (ht : okT m = true → ST X G Φ e m) (r : All2 X G Φ es ms) : All2 X G Φ (e :: es) (.cons m ms)
theorem All2.one {es : List Expr} {m : E} (h : All2 X G Φ es (.cons m .nil)) : ∃ e, es = [e] ∧ plX e = true ∧ SE X G Φ e m := by
  cases h with
  | cons pl he ht r =>
    cases r
    exact ⟨_, rfl, pl, he⟩

theorem RRs.back {K : Frag} {H0 H1 F0 F1 F2 H2 : Hp} {env0 env1 env2 : Mini.Env} {σ : L2.St} (x : Ext env0 σ F0 H0 env1 σ F1 H1) : ∀ {vs : List V} {rs : List RV}, RRs K H1 F2 H2 env2 σ vs rs → RRs K H0 F2 H2 env2 σ vs rs
  | [], [], h => h
  | v :: vs, r :: rs, ⟨h1, h2, h3⟩ => ⟨MS.back h1 x, RRs.back x h2, h3⟩
  | [], _ :: _, h => h.elim
  | _ :: _, [], h => h.elim
theorem RRs.own_new {K : Frag} {H0 F H : Hp} {env : Mini.Env} {σ : L2.St} : ∀ {vs : List V} {rs : List RV} {j : Nat} {ds : List D} {v : V}, RRs K H0 F H env σ vs rs → rs[j]? = some (.own ds) → vs[j]? = some v → ∃ a, v = .ref a ∧ H0 a = none
  | [], [], _, _, _, _, e, _ => by simp at e
  | v :: vs, r :: rs, 0, ds, w, ⟨h1, _, _⟩, e, e' => by
    simp at e e'; subst e; subst e'
    obtain ⟨a, vs', e1, e2, _⟩ := h1
    exact ⟨a, e1, e2⟩
  | v :: vs, r :: rs, j + 1, ds, w, ⟨_, h2, _⟩, e, e' => RRs.own_new (j := j) h2 (by simpa using e) (by simpa using e')
  | [], _ :: _, _, _, _, h, _, _ => h.elim
  | _ :: _, [], _, _, _, h, _, _ => h.elim
theorem RRs.length {K : Frag} {H0 F H : Hp} {env : Mini.Env} {σ : L2.St} : ∀ {vs : List V} {rs : List RV}, RRs K H0 F H env σ vs rs → vs.length = rs.length
  | [], [], _ => rfl
  | v :: vs, r :: rs, ⟨_, h2, _⟩ => by rw [List.length_cons, List.length_cons, RRs.length h2]
  | [], _ :: _, h => h.elim
  | _ :: _, [], h => h.elim
theorem a_rs : ∀ {es : List Expr} {ms : Es}, All2 X G Φ es ms → PA X es (tRs X.K G Φ ms)
  | _, _, .nil => PA.imp pa_nil fun σ H Q ⟨env, F, rs, env', hre, hev, q⟩ => by
    simp only [evRs] at hev
    cases hev
    exact q [] F H hre .refl trivial
  | _, _, .cons pl he ht r => PA.imp (pa_cons he (a_rs r) (star_pl pl)) fun σ H Q ⟨env, F, rs, env', hre, hev, q⟩ => by
    simp only [evRs, Option.bind_eq_some_iff, Option.map_eq_some_iff] at hev
    obtain ⟨⟨r1, e1⟩, h1, ⟨rs2, e2⟩, h2, h3⟩ := hev
    cases h3
    refine ⟨env, F, r1, e1, hre, h1, fun v1 F1 H1 re1 x1 q1 => ⟨e1, F1, rs2, e2, re1, h2, fun vs F2 H2 re2 x2 q2 => q _ F2 H2 re2 (x1.trans x2) ⟨later q1 x2, RRs.back x1 q2, fun ds ed j ds' ej ev => ?_⟩⟩⟩
    subst ed
    obtain ⟨a, vs', ea, _, _, ha, _⟩ := q1
    obtain ⟨b, eb, hb⟩ := RRs.own_new q2 ej ev
    rw [ea] at eb; cases eb
    rw [ha] at hb; cases hb
theorem a_vs : ∀ {es : List Expr} {ms : Es}, All2 X G Φ es ms → PA X es (tVs X.K G Φ ms)
  | _, _, .nil => PA.imp pa_nil fun σ H Q ⟨env, F, rs, env', hre, hev, q⟩ => by
    simp only [evVs] at hev
    cases hev
    exact q [] F H hre .refl rfl
  | _, _, .cons pl he ht r => PA.imp (pa_cons he (a_vs r) (star_pl pl)) fun σ H Q ⟨env, F, rs, env', hre, hev, q⟩ => by
    simp only [evVs, Option.bind_eq_some_iff, Option.map_eq_some_iff] at hev
    obtain ⟨⟨r1, e1⟩, h1, ⟨d1, e1'⟩, h1', ⟨ds2, e2⟩, h2, h3⟩ := hev
    cases h3
    refine ⟨env, F, r1, e1, hre, h1, fun v1 F1 H1 re1 x1 q1 => ?_⟩
    obtain ⟨F1', re1', x1', q1'⟩ := fz_ok re1 x1 q1 h1'
    exact ⟨e1', F1', ds2, e2, re1', h2, fun vs F2 H2 re2 x2 q2 => q _ F2 H2 re2 (x1'.trans x2) ⟨v1, vs, rfl, Rep.mono x2.mono _ q1', q2⟩⟩

/-! ### displays -/
theorem lim_ok {ds ds' : List D} (h : lim ds = some ds') : ds' = ds ∧ ds.length ≤ sizeLine := by
  unfold lim at h
  split at h
  · rename_i q
    cases h
    exact ⟨rfl, by rw [← LIM_eq]; exact q⟩
  · cases h
theorem x_tup {es : List Expr} {ms : Es} {i : Nat} {pos : Pos} (h : All2 X G Φ es ms) : SE X G Φ (.Tuple es i pos) (.tup ms) :=
  PE.imp (pe_tup (a_vs h)) fun σ H Q ⟨env, F, r, env', hre, hev, q⟩ => by
    simp only [evX, fin_f, Option.bind_eq_some_iff, Option.map_eq_some_iff] at hev
    obtain ⟨⟨ds, e1⟩, h1, ds', h2, h3⟩ := hev
    cases h3
    obtain ⟨rfl, hl⟩ := lim_ok h2
    refine ⟨env, F, _, e1, hre, h1, fun vs F1 H1 re1 x1 q1 => ⟨by rw [← q1.length]; exact hl, fun p hp => ?_⟩⟩
    obtain ⟨re2, x2, q2⟩ := (Born.tup re1.sub hp q1).go re1
    exact q _ _ _ re2 (x1.trans x2) (MS.back q2 x1)
theorem x_lst {es : List Expr} {ms : Es} {pos : Pos} (h : All2 X G Φ es ms) : SE X G Φ (.List es pos) (.lst ms) :=
  PE.imp (pe_lst (a_vs h)) fun σ H Q ⟨env, F, r, env', hre, hev, q⟩ => by
    simp only [evX, fin_f, Option.bind_eq_some_iff, Option.map_eq_some_iff] at hev
    obtain ⟨⟨ds, e1⟩, h1, ds', h2, h3⟩ := hev
    cases h3
    obtain ⟨rfl, hl⟩ := lim_ok h2
    refine ⟨env, F, _, e1, hre, h1, fun vs F1 H1 re1 x1 q1 => ⟨by rw [← q1.length]; exact hl, fun p hp => ?_⟩⟩
    obtain ⟨re2, x2, q2⟩ := (Born.lst re1.sub hp q1).go re1
    exact q _ _ _ re2 (x1.trans x2) (MS.back q2 x1)

/-! ### comparisons -/
section
variable {ea eb ec : Expr} {a b d : E} {pos : Pos}
theorem core_cmp {op : Cop} : ∀ σ H Q, tX X.K G Φ (.cmp op a b) σ H Q → tOp (rC2 X.K (cmpop op)) (tX X.K G Φ a) (tX X.K G Φ b) σ H Q := fun σ H Q ⟨env, F, r, env', hre, hev, q⟩ => by
  simp only [evX, fin_f, Option.bind_eq_some_iff, Option.map_eq_some_iff] at hev
  obtain ⟨⟨ra, e1⟩, h1, ⟨rb, e2⟩, h2, x, h3, y, h4, z, h5, h6⟩ := hev
  cases h6
  exact ⟨env, F, ra, e1, hre, h1, fun v1 F1 H1 re1 x1 q1 => ⟨e1, F1, rb, e2, re1, h2, fun v2 F2 H2 re2 x2 q2 => ⟨F2, x, y, z, re2.sub, pk_ok re2 (later q1 x2) h3, pk_ok re2 q2 h4, h5, q _ F2 H2 re2 (x1.trans x2) rfl⟩⟩⟩
theorem x_cmp (O : Ok c G Φ k X sc) {op : Cop} {o : CmpOp} (ho : copB op o = true) (hp : plX eb = true) (ha : SE X G Φ ea a) (hb : SE X G Φ eb b) : SE X G Φ (.Compare ea [o] [eb] pos) (.cmp op a b) :=
  PE.imp (pe_cmpR (cmp_ok O.units ho) ha hb (nomark_pl hp _)) core_cmp
theorem t_cmp (O : Ok c G Φ k X sc) {op : Cop} {o : CmpOp} (ho : copB op o = true) (hp : plX eb = true) (ha : SE X G Φ ea a) (hb : SE X G Φ eb b) : ST X G Φ (.Compare ea [o] [eb] pos) (.cmp op a b) :=
  st_cmp (fun _ => rfl) cmp_bl (PT.imp (pt_cmpR (cmp_ok O.units ho) ha hb (nomark_pl hp _)) fun σ H Q h => core_cmp σ H _ h)
theorem chain_bl {op op' : Cop} : ∀ env r env', evX G Φ (.chain op op' a b d) false env = some (r, env') → ∃ z, r = .val (.bl z) := fun env r env' h => by
  simp only [evX, fin_f, Option.bind_eq_some_iff] at h
  obtain ⟨_, _, _, _, _, _, _, _, z, _, h⟩ := h
  split at h
  · simp only [Option.bind_eq_some_iff, Option.map_eq_some_iff] at h
    obtain ⟨_, _, _, _, _, _, z, _, h⟩ := h
    cases h
    exact ⟨z, rfl⟩
  · cases h
    exact ⟨_, rfl⟩
theorem core_chain {op op' : Cop} : ∀ σ H Q, tX X.K G Φ (.chain op op' a b d) σ H Q → tChain (rC2 X.K (cmpop op)) (rC2 X.K (cmpop op')) (tX X.K G Φ a) (tX X.K G Φ b) (tX X.K G Φ d) σ H Q := fun σ H Q ⟨env, F, r, env', hre, hev, q⟩ => by
  simp only [evX, fin_f, Option.bind_eq_some_iff] at hev
  obtain ⟨⟨ra, e1⟩, h1, ⟨rb, e2⟩, h2, x, h3, y, h4, z, h5, h6⟩ := hev
  refine ⟨env, F, ra, e1, hre, h1, fun v1 F1 H1 re1 x1 q1 => ⟨e1, F1, rb, e2, re1, h2, fun v2 F2 H2 re2 x2 q2 => ⟨F2, x, y, z, re2.sub, pk_ok re2 (later q1 x2) h3, pk_ok re2 q2 h4, h5, z, rfl, ?_⟩⟩⟩
  cases z with
  | false =>
    simp only [Bool.false_eq_true, if_false] at h6 ⊢
    cases h6
    exact q _ F2 H2 re2 (x1.trans x2) rfl
  | true =>
    simp only [if_true, Option.bind_eq_some_iff, Option.map_eq_some_iff] at h6 ⊢
    obtain ⟨⟨rc, e3⟩, h7, y', h8, w, h9, z', h10, h11⟩ := h6
    cases h11
    exact ⟨e2, F2, rc, e3, re2, h7, fun v3 F3 H3 re3 x3 q3 => ⟨F3, y', w, z', re3.sub, pk_ok re3 (later q2 x3) h8, pk_ok re3 q3 h9, h10, q _ F3 H3 re3 ((x1.trans x2).trans x3) rfl⟩⟩
theorem x_chain (O : Ok c G Φ k X sc) {op op' : Cop} {o o' : CmpOp} (ho : copB op o = true) (ho' : copB op' o' = true) (hp : plX eb = true) (hp' : plX ec = true) (ha : SE X G Φ ea a) (hb : SE X G Φ eb b) (hd : SE X G Φ ec d) : SE X G Φ (.Compare ea [o, o'] [eb, ec] pos) (.chain op op' a b d) :=
  PE.imp (pe_chain (cmp_ok O.units ho) (cmp_ok O.units ho') ha hb hd (last_pl hp hp' _ _)) core_chain
theorem t_chain (O : Ok c G Φ k X sc) {op op' : Cop} {o o' : CmpOp} (ho : copB op o = true) (ho' : copB op' o' = true) (hp : plX eb = true) (hp' : plX ec = true) (ha : SE X G Φ ea a) (hb : SE X G Φ eb b) (hd : SE X G Φ ec d) : ST X G Φ (.Compare ea [o, o'] [eb, ec] pos) (.chain op op' a b d) :=
  st_cmp (fun _ => rfl) chain_bl (PT.imp (pt_chain (cmp_ok O.units ho) (cmp_ok O.units ho') ha hb hd (last_pl hp hp' _ _)) fun σ H Q h => core_chain σ H _ h)
def isNonD : D → Bool
  | .non => true
  | _ => false
theorem non_of {K : Frag} {F H : Hp} {v : V} {d : D} (h : RdD K F H v d) : decide (v = .non) = isNonD d := by
  cases d with
  | non => rw [show v = _ from h]; rfl
  | bl _ => rw [show v = _ from h]; rfl
  | int _ => rw [show v = _ from h]; rfl
  | str _ => rw [show v = _ from h]; rfl
  | tup _ => obtain ⟨_, _, e, _⟩ := h; rw [e]; rfl
  | vl _ => obtain ⟨_, _, e, _⟩ := h; rw [e]; rfl
  | fl _ => obtain ⟨_, _, e, _⟩ := h; rw [e]; rfl
theorem isN_bl {y : Bool} : ∀ env r env', evX G Φ (.isN a y) false env = some (r, env') → ∃ z, r = .val (.bl z) := fun env r env' h => by
  simp only [evX, fin_f, Option.bind_eq_some_iff, Option.map_eq_some_iff] at h
  obtain ⟨_, _, _, _, h⟩ := h
  cases h
  exact ⟨_, rfl⟩
theorem core_isN : ∀ σ H Q, tX X.K G Φ (.isN a true) σ H Q → tIsN (tX X.K G Φ a) σ H Q := fun σ H Q ⟨env, F, r, env', hre, hev, q⟩ => by
  simp only [evX, fin_f, Option.bind_eq_some_iff, Option.map_eq_some_iff] at hev
  obtain ⟨⟨ra, e1⟩, h1, x, h2, h3⟩ := hev
  cases h3
  refine ⟨env, F, ra, e1, hre, h1, fun v1 F1 H1 re1 x1 q1 => ?_⟩
  refine q _ F1 H1 re1 x1 ?_
  show V.bl _ = V.bl _
  rw [non_of (pk_ok re1 q1 h2)]
  cases x <;> rfl
theorem core_notN : ∀ σ H Q, tX X.K G Φ (.isN a false) σ H Q → tNotN (tX X.K G Φ a) σ H Q := fun σ H Q ⟨env, F, r, env', hre, hev, q⟩ => by
  simp only [evX, fin_f, Option.bind_eq_some_iff, Option.map_eq_some_iff] at hev
  obtain ⟨⟨ra, e1⟩, h1, x, h2, h3⟩ := hev
  cases h3
  refine ⟨env, F, ra, e1, hre, h1, fun v1 F1 H1 re1 x1 q1 => ?_⟩
  refine q _ F1 H1 re1 x1 ?_
  show V.bl _ = V.bl _
  rw [non_of (pk_ok re1 q1 h2)]
  cases x <;> rfl
theorem x_isN {i : Nat} {p : Pos} (ha : SE X G Φ ea a) : SE X G Φ (.Compare ea [.Is] [.Constant .none i p] pos) (.isN a true) := PE.imp (pe_cmp (pc_isN ha) rfl) core_isN
theorem x_notN {i : Nat} {p : Pos} (ha : SE X G Φ ea a) : SE X G Φ (.Compare ea [.IsNot] [.Constant .none i p] pos) (.isN a false) := PE.imp (pe_cmp (pc_notN ha) rfl) core_notN
theorem t_isN {i : Nat} {p : Pos} (ha : SE X G Φ ea a) : ST X G Φ (.Compare ea [.Is] [.Constant .none i p] pos) (.isN a true) := st_cmp (fun _ => rfl) isN_bl (PT.imp (pt_cmp (pc_isN ha) rfl) fun σ H Q h => core_isN σ H _ h)
theorem t_notN {i : Nat} {p : Pos} (ha : SE X G Φ ea a) : ST X G Φ (.Compare ea [.IsNot] [.Constant .none i p] pos) (.isN a false) := st_cmp (fun _ => rfl) isN_bl (PT.imp (pt_cmp (pc_notN ha) rfl) fun σ H Q h => core_notN σ H _ h)
theorem blR_ok {K : Frag} {H0 F H : Hp} {env : Mini.Env} {σ : L2.St} {v : V} {r : RV} {b : Bool} (q : RR K H0 F H env σ v r) (h : blR r = some b) : v = .bl b ∧ r = .val (.bl b) := by
  unfold blR at h
  split at h
  · cases h; exact ⟨q, rfl⟩
  · cases h
theorem isB_bl {y z : Bool} : ∀ env r env', evX G Φ (.isB a z y) false env = some (r, env') → ∃ z, r = .val (.bl z) := fun env r env' h => by
  simp only [evX, fin_f, Option.bind_eq_some_iff, Option.map_eq_some_iff] at h
  obtain ⟨_, _, _, _, h⟩ := h
  cases h
  exact ⟨_, rfl⟩
theorem core_isB {y z : Bool} : ∀ σ H Q, tX X.K G Φ (.isB a z y) σ H Q → tOp (fun x y' H Q => ∃ u w : Bool, x = .bl u ∧ y' = .bl w ∧ Q (.bl (decide (u = w) == y)) H) (tX X.K G Φ a) (tC (.bl z)) σ H Q := fun σ H Q ⟨env, F, r, env', hre, hev, q⟩ => by
  simp only [evX, fin_f, Option.bind_eq_some_iff, Option.map_eq_some_iff] at hev
  obtain ⟨⟨ra, e1⟩, h1, x, h2, h3⟩ := hev
  cases h3
  refine ⟨env, F, ra, e1, hre, h1, fun v1 F1 H1 re1 x1 q1 => ?_⟩
  refine ⟨x, z, (blR_ok q1 h2).1, rfl, q _ F1 H1 re1 x1 ?_⟩
  show V.bl _ = V.bl _
  cases x <;> cases z <;> rfl
theorem op_isBy {y : Bool} {o : CmpOp} (h : o = if y then .Is else .IsNot) : OpR X (compareOp o) (fun x y' H Q => ∃ u w : Bool, x = .bl u ∧ y' = .bl w ∧ Q (.bl (decide (u = w) == y)) H) := by
  subst h
  intro pins s σ H x y' v u Q I rx ry ⟨a, b, e1, e2, q⟩
  cases y with
  | true => exact op_isBl pins s σ H x y' v u Q I rx ry ⟨a, b, e1, e2, by simpa using q⟩
  | false => exact op_notBl pins s σ H x y' v u Q I rx ry ⟨a, b, e1, e2, by simpa using q⟩
theorem x_isB {y z : Bool} {o : CmpOp} {i : Nat} {p : Pos} (ho : o = if y then .Is else .IsNot) (ha : SE X G Φ ea a) : SE X G Φ (.Compare ea [o] [.Constant (.bool z) i p] pos) (.isB a z y) :=
  PE.imp (pe_cmpR (op_isBy ho) ha pe_bl rfl) core_isB
theorem t_isB {y z : Bool} {o : CmpOp} {i : Nat} {p : Pos} (ho : o = if y then .Is else .IsNot) (ha : SE X G Φ ea a) : ST X G Φ (.Compare ea [o] [.Constant (.bool z) i p] pos) (.isB a z y) :=
  st_cmp (fun _ => rfl) isB_bl (PT.imp (pt_cmpR (op_isBy ho) ha pe_bl rfl) fun σ H Q h => core_isB σ H _ h)

/-! ### and, or -/
theorem tst_val {m : E} {env env' : Mini.Env} {k : Bool} (h : tst (evX G Φ m false env) = some (k, env')) : evX G Φ m false env = some (.val (.bl k), env') := by
  cases e : evX G Φ m false env with
  | none => rw [e] at h; cases h
  | some p =>
    obtain ⟨r, e'⟩ := p
    rw [e] at h
    simp only [tst, Option.bind_some, Option.map_eq_some_iff] at h
    obtain ⟨b, hb, h⟩ := h
    cases h
    unfold blR at hb
    split at hb
    · cases hb; rfl
    · cases hb
theorem e_andV : ∀ {es : List Expr} {ms : Es}, All2 X G Φ es ms → es ≠ [] → PE X (.BoolOp .And es pos) (tBV X.K (evAndV G Φ ms))
  | _, _, .nil, h => absurd rfl h
  | _, _, .cons (e := e) (m := m) (es := []) pl he ht .nil, _ => PE.imp (pe_one he) fun σ H Q ⟨env, F, k, env', hre, hev, q⟩ => by
    simp only [evAndV, Option.bind_eq_some_iff] at hev
    obtain ⟨⟨k1, e1⟩, h1, h2⟩ := hev
    refine ⟨env, F, _, e1, hre, tst_val h1, fun v F1 H1 re1 x1 q1 => ?_⟩
    rw [show v = _ from q1]
    cases k1 with
    | true => cases h2; exact q F1 H1 re1 x1
    | false => cases h2; exact q F1 H1 re1 x1
  | _, _, .cons (e := e) (m := m) pl he ht (.cons pl' he' ht' r), _ => PE.imp (pe_and he (e_andV (.cons pl' he' ht' r) (List.cons_ne_nil _ _))) fun σ H Q ⟨env, F, k, env', hre, hev, q⟩ => by
    rw [evAndV] at hev
    simp only [Option.bind_eq_some_iff] at hev
    obtain ⟨⟨k1, e1⟩, h1, h2⟩ := hev
    refine ⟨env, F, _, e1, hre, tst_val h1, fun v F1 H1 re1 x1 q1 => ⟨k1, q1, ?_⟩⟩
    cases k1 with
    | true => exact ⟨e1, F1, k, env', re1, h2, fun F2 H2 re2 x2 => q F2 H2 re2 (x1.trans x2)⟩
    | false => cases h2; exact q F1 H1 re1 x1
theorem e_orV : ∀ {es : List Expr} {ms : Es}, All2 X G Φ es ms → es ≠ [] → PE X (.BoolOp .Or es pos) (tBV X.K (evOrV G Φ ms))
  | _, _, .nil, h => absurd rfl h
  | _, _, .cons (e := e) (m := m) (es := []) pl he ht .nil, _ => PE.imp (pe_one he) fun σ H Q ⟨env, F, k, env', hre, hev, q⟩ => by
    simp only [evOrV, Option.bind_eq_some_iff] at hev
    obtain ⟨⟨k1, e1⟩, h1, h2⟩ := hev
    refine ⟨env, F, _, e1, hre, tst_val h1, fun v F1 H1 re1 x1 q1 => ?_⟩
    rw [show v = _ from q1]
    cases k1 with
    | true => cases h2; exact q F1 H1 re1 x1
    | false => cases h2; exact q F1 H1 re1 x1
  | _, _, .cons (e := e) (m := m) pl he ht (.cons pl' he' ht' r), _ => PE.imp (pe_or he (e_orV (.cons pl' he' ht' r) (List.cons_ne_nil _ _))) fun σ H Q ⟨env, F, k, env', hre, hev, q⟩ => by
    rw [evOrV] at hev
    simp only [Option.bind_eq_some_iff] at hev
    obtain ⟨⟨k1, e1⟩, h1, h2⟩ := hev
    refine ⟨env, F, _, e1, hre, tst_val h1, fun v F1 H1 re1 x1 q1 => ⟨k1, q1, ?_⟩⟩
    cases k1 with
    | false => exact ⟨e1, F1, k, env', re1, h2, fun F2 H2 re2 x2 => q F2 H2 re2 (x1.trans x2)⟩
    | true => cases h2; exact q F1 H1 re1 x1
theorem e_and : ∀ {es : List Expr} {ms : Es}, All2 X G Φ es ms → okTs ms = true → es ≠ [] → PW X (.BoolOp .And es pos) (tBT X.K (evAnd G Φ ms))
  | _, _, .nil, _, h => absurd rfl h
  | _, _, .cons (e := e) (m := m) (es := []) pl he ht .nil, ho, _ => PW.imp (pw_and1 (ht (by simp only [okTs, Bool.and_eq_true] at ho; exact ho.1))) fun σ H Q ⟨env, F, k, env', hre, hev, q⟩ => by
    simp only [evAnd, Option.bind_eq_some_iff] at hev
    obtain ⟨⟨k1, e1⟩, h1, h2⟩ := hev
    refine ⟨env, F, k1, e1, hre, h1, fun F1 H1 re1 x1 => ?_⟩
    cases k1 with
    | true => cases h2; exact q F1 H1 re1 x1
    | false => cases h2; exact q F1 H1 re1 x1
  | _, _, .cons (e := e) (m := m) pl he ht (.cons pl' he' ht' r), ho, _ => by
    rw [okTs, Bool.and_eq_true] at ho
    refine PW.imp (pw_and (ht ho.1) (e_and (.cons pl' he' ht' r) ho.2 (List.cons_ne_nil _ _))) fun σ H Q ⟨env, F, k, env', hre, hev, q⟩ => ?_
    rw [evAnd] at hev
    simp only [Option.bind_eq_some_iff] at hev
    obtain ⟨⟨k1, e1⟩, h1, h2⟩ := hev
    refine ⟨env, F, k1, e1, hre, h1, fun F1 H1 re1 x1 => ?_⟩
    cases k1 with
    | true => exact ⟨e1, F1, k, env', re1, h2, fun F2 H2 re2 x2 => q F2 H2 re2 (x1.trans x2)⟩
    | false => cases h2; exact q F1 H1 re1 x1
theorem e_or : ∀ {es : List Expr} {ms : Es}, All2 X G Φ es ms → okTs ms = true → es ≠ [] → PW X (.BoolOp .Or es pos) (tBT X.K (evOr G Φ ms))
  | _, _, .nil, _, h => absurd rfl h
  | _, _, .cons (e := e) (m := m) (es := []) pl he ht .nil, ho, _ => PW.imp (pw_or1 (ht (by simp only [okTs, Bool.and_eq_true] at ho; exact ho.1))) fun σ H Q ⟨env, F, k, env', hre, hev, q⟩ => by
    simp only [evOr, Option.bind_eq_some_iff] at hev
    obtain ⟨⟨k1, e1⟩, h1, h2⟩ := hev
    refine ⟨env, F, k1, e1, hre, h1, fun F1 H1 re1 x1 => ?_⟩
    cases k1 with
    | true => cases h2; exact q F1 H1 re1 x1
    | false => cases h2; exact q F1 H1 re1 x1
  | _, _, .cons (e := e) (m := m) pl he ht (.cons pl' he' ht' r), ho, _ => by
    rw [okTs, Bool.and_eq_true] at ho
    refine PW.imp (pw_or (ht ho.1) (e_or (.cons pl' he' ht' r) ho.2 (List.cons_ne_nil _ _))) fun σ H Q ⟨env, F, k, env', hre, hev, q⟩ => ?_
    rw [evOr] at hev
    simp only [Option.bind_eq_some_iff] at hev
    obtain ⟨⟨k1, e1⟩, h1, h2⟩ := hev
    refine ⟨env, F, k1, e1, hre, h1, fun F1 H1 re1 x1 => ?_⟩
    cases k1 with
    | false => exact ⟨e1, F1, k, env', re1, h2, fun F2 H2 re2 x2 => q F2 H2 re2 (x1.trans x2)⟩
    | true => cases h2; exact q F1 H1 re1 x1
theorem x_and {es : List Expr} {ms : Es} (h : All2 X G Φ es ms) (hn : es ≠ []) : SE X G Φ (.BoolOp .And es pos) (.and ms) :=
  PE.imp (e_andV h hn) fun σ H Q ⟨env, F, r, env', hre, hev, q⟩ => by
    simp only [evX, Bool.false_eq_true, if_false, Option.map_eq_some_iff] at hev
    obtain ⟨⟨k1, e1⟩, h1, h2⟩ := hev
    cases h2
    exact ⟨env, F, k1, e1, hre, h1, fun F1 H1 re1 x1 => q _ F1 H1 re1 x1 rfl⟩
theorem x_or {es : List Expr} {ms : Es} (h : All2 X G Φ es ms) (hn : es ≠ []) : SE X G Φ (.BoolOp .Or es pos) (.or ms) :=
  PE.imp (e_orV h hn) fun σ H Q ⟨env, F, r, env', hre, hev, q⟩ => by
    simp only [evX, Bool.false_eq_true, if_false, Option.map_eq_some_iff] at hev
    obtain ⟨⟨k1, e1⟩, h1, h2⟩ := hev
    cases h2
    exact ⟨env, F, k1, e1, hre, h1, fun F1 H1 re1 x1 => q _ F1 H1 re1 x1 rfl⟩
theorem t_and {es : List Expr} {ms : Es} (h : All2 X G Φ es ms) (ho : okTs ms = true) (hn : es ≠ []) : ST X G Φ (.BoolOp .And es pos) (.and ms) :=
  PT.imp (e_and h ho hn).pt fun σ H Q ⟨env, F, r, env', hre, hev, q⟩ => by
    simp only [evX, if_true] at hev
    cases he : evAnd G Φ ms env with
    | none => rw [he] at hev; cases hev
    | some p => rw [he] at hev; cases hev; exact ⟨env, F, _, _, hre, he, fun F1 H1 re1 x1 => q F1 H1 re1 x1⟩
theorem t_or {es : List Expr} {ms : Es} (h : All2 X G Φ es ms) (ho : okTs ms = true) (hn : es ≠ []) : ST X G Φ (.BoolOp .Or es pos) (.or ms) :=
  PT.imp (e_or h ho hn).pt fun σ H Q ⟨env, F, r, env', hre, hev, q⟩ => by
    simp only [evX, if_true] at hev
    cases he : evOr G Φ ms env with
    | none => rw [he] at hev; cases hev
    | some p => rw [he] at hev; cases hev; exact ⟨env, F, _, _, hre, he, fun F1 H1 re1 x1 => q F1 H1 re1 x1⟩
theorem x_ite (hd : ST X G Φ ec d) (ha : SE X G Φ ea a) (hb : SE X G Φ eb b) : SE X G Φ (.IfExp ec ea eb pos) (.ite d a b) :=
  PE.imp (pe_ifExp hd ha hb) fun σ H Q ⟨env, F, r, env', hre, hev, q⟩ => by
    simp only [evX, fin_f, Option.bind_eq_some_iff] at hev
    obtain ⟨⟨k1, e1⟩, h1, h2⟩ := hev
    refine ⟨env, F, k1, e1, hre, h1, fun F1 H1 re1 x1 => ?_⟩
    cases k1 with
    | true => exact ⟨e1, F1, r, env', re1, h2, fun v F2 H2 re2 x2 q2 => q v F2 H2 re2 (x1.trans x2) (MS.back q2 x1)⟩
    | false => exact ⟨e1, F1, r, env', re1, h2, fun v F2 H2 re2 x2 q2 => q v F2 H2 re2 (x1.trans x2) (MS.back q2 x1)⟩

/-! ### subscripts -/
theorem intD_ok {K : Frag} {F H : Hp} {v : V} {d : D} {i : Int} (h : RdD K F H v d) (e : intD d = some i) : v = .int i := by
  cases d <;> cases e
  exact h
theorem x_idx (hp : plX eb = true) (ha : SE X G Φ ea a) (hb : SE X G Φ eb b) : SE X G Φ (.Subscript ea eb pos) (.idx a b) :=
  PE.imp (pe_ix ix_ok ha hb (plainIx_pl hp)) fun σ H Q ⟨env, F, r, env', hre, hev, q⟩ => by
    simp only [evX, fin_f, Option.bind_eq_some_iff, Option.map_eq_some_iff] at hev
    obtain ⟨⟨ra, e1⟩, h1, ⟨rb, e2⟩, h2, x, h3, y, h4, i, h5, z, h6, h7⟩ := hev
    cases h7
    exact ⟨env, F, ra, e1, hre, h1, fun v1 F1 H1 re1 x1 q1 => ⟨e1, F1, rb, e2, re1, h2, fun v2 F2 H2 re2 x2 q2 => ⟨F2, x, i, z, re2.sub, pk_ok re2 (later q1 x2) h3, intD_ok (pk_ok re2 q2 h4) h5, h6, fun v hv => q v F2 H2 re2 (x1.trans x2) hv⟩⟩⟩
theorem x_slT {p : Pos} (ha : SE X G Φ ea a) (hb : SE X G Φ eb b) : SE X G Φ (.Subscript ea (.Slice none (some eb) none p) pos) (.slT a b) :=
  PE.imp (pe_slice sl_ok ha po_none (po_some hb)) fun σ H Q ⟨env, F, r, env', hre, hev, q⟩ => by
    simp only [evX, fin_f, Option.bind_eq_some_iff, Option.map_eq_some_iff] at hev
    obtain ⟨⟨ra, e1⟩, h1, ⟨rb, e2⟩, h2, x, h3, y, h4, i, h5, z, h6, h7⟩ := hev
    cases h7
    refine ⟨env, F, ra, e1, hre, h1, fun v1 F1 H1 re1 x1 q1 => ⟨e1, F1, rb, e2, re1, h2, fun v2 F2 H2 re2 x2 q2 => ⟨i, intD_ok (pk_ok re2 q2 h4) h5, F2, x, r, re2.sub, pk_ok re2 (later q1 x2) h3, h6, fun v F' H' bo => ?_⟩⟩⟩
    obtain ⟨re3, x3, q3⟩ := bo.go re2
    exact q v F' H' re3 ((x1.trans x2).trans x3) (MS.back q3 (x1.trans x2))
theorem x_slF {p : Pos} (ha : SE X G Φ ea a) (hb : SE X G Φ eb b) : SE X G Φ (.Subscript ea (.Slice (some eb) none none p) pos) (.slF a b) :=
  PE.imp (pe_slice sl_ok ha (po_some hb) po_none) fun σ H Q ⟨env, F, r, env', hre, hev, q⟩ => by
    simp only [evX, fin_f, Option.bind_eq_some_iff, Option.map_eq_some_iff] at hev
    obtain ⟨⟨ra, e1⟩, h1, ⟨rb, e2⟩, h2, x, h3, y, h4, i, h5, z, h6, h7⟩ := hev
    cases h7
    refine ⟨env, F, ra, e1, hre, h1, fun v1 F1 H1 re1 x1 q1 => ⟨e1, F1, rb, e2, re1, h2, fun v2 F2 H2 re2 x2 q2 => ⟨i, intD_ok (pk_ok re2 q2 h4) h5, F2, x, r, re2.sub, pk_ok re2 (later q1 x2) h3, h6, fun v F' H' bo => ?_⟩⟩⟩
    obtain ⟨re3, x3, q3⟩ := bo.go re2
    exact q v F' H' re3 ((x1.trans x2).trans x3) (MS.back q3 (x1.trans x2))
theorem x_slB {p : Pos} (ha : SE X G Φ ea a) (hb : SE X G Φ eb b) (hd : SE X G Φ ec d) : SE X G Φ (.Subscript ea (.Slice (some eb) (some ec) none p) pos) (.slB a b d) :=
  PE.imp (pe_slice sl_ok ha (po_some hb) (po_some hd)) fun σ H Q ⟨env, F, r, env', hre, hev, q⟩ => by
    simp only [evX, fin_f, Option.bind_eq_some_iff, Option.map_eq_some_iff] at hev
    obtain ⟨⟨ra, e1⟩, h1, ⟨rb, e2⟩, h2, y, h4, i, h6, ⟨rc, e3⟩, h2', x, h3, z, h5, j, h7, w, h8, h9⟩ := hev
    cases h9
    refine ⟨env, F, ra, e1, hre, h1, fun v1 F1 H1 re1 x1 q1 => ⟨e1, F1, rb, e2, re1, h2, fun v2 F2 H2 re2 x2 q2 => ⟨i, ?_, e2, F2, rc, e3, re2, h2', fun v3 F3 H3 re3 x3 q3 => ⟨j, intD_ok (pk_ok re3 q3 h5) h7, F3, x, r, re3.sub, pk_ok re3 (later q1 (x2.trans x3)) h3, h8, fun v F' H' bo => ?_⟩⟩⟩⟩
    · exact intD_ok (pk_ok re2 q2 h4) h6
    · obtain ⟨re4, x4, q4⟩ := bo.go re3
      exact q v F' H' re4 (((x1.trans x2).trans x3).trans x4) (MS.back q4 ((x1.trans x2).trans x3))
theorem x_rev {i : Nat} {p1 p2 p3 : Pos} (ha : SE X G Φ ea a) : SE X G Φ (.Subscript ea (.Slice none none (some (.UnaryOp .USub (.Constant (.int 1) i p1) p2)) p3) pos) (.rev a) :=
  PE.imp (pe_revA ha) fun σ H Q ⟨env, F, r, env', hre, hev, q⟩ => by
    simp only [evX, fin_f, Option.bind_eq_some_iff, Option.map_eq_some_iff] at hev
    obtain ⟨⟨ra, e1⟩, h1, x, h2, r', h3, h4⟩ := hev
    cases h4
    refine ⟨env, F, ra, e1, hre, h1, fun v1 F1 H1 re1 x1 q1 => ?_⟩
    have rd := pk_ok re1 q1 h2
    cases x <;> cases h3
    · obtain ⟨b, vs, rfl, k1, k2⟩ := tupR rd
      refine .inr ⟨b, vs, rfl, sqT_mono re1.sub k1, fun p hp => ?_⟩
      obtain ⟨re2, x2, q2⟩ := (Born.tup re1.sub hp k2.rev).go re1
      exact q _ _ _ re2 (x1.trans x2) (MS.back q2 x1)
    · obtain ⟨b, vs, e, hH, hr⟩ := rd
      refine .inl ⟨b, vs, e, .of hH, fun p hp => ?_⟩
      obtain ⟨re2, x2, q2⟩ := (Born.lst re1.sub hp hr.rev).go re1
      exact q _ _ _ re2 (x1.trans x2) (MS.back q2 x1)
end
end
end MS

/-! Calls of the text's own defs. -/
namespace MS
open PySem PySem.Spec PyProof.Rows L2 Mini

section
variable {K : Frag} {H0 H1 F0 F1 F2 : Hp} {env0 env1 : Mini.Env} {σ σ0 : L2.St} {H : Hp}
theorem RRs.fz {a : Addr} {ws : List V} (hF : F1 a = none) : ∀ {vs : List V} {rs : List RV}, RRs K H F1 H1 env1 σ vs rs → (∀ (j : Nat) (ds' : List D), rs[j]? = some (.own ds') → vs[j]? ≠ some (.ref a)) → RRs K H (upd F1 a (.lst ws)) H1 env1 σ vs rs
  | [], [], h, _ => h
  | v :: vs, r :: rs, ⟨h1, h2, h3⟩, n => by
    refine ⟨?_, RRs.fz hF h2 fun j ds' e => by simpa using n (j + 1) ds' (by simpa using e), h3⟩
    have m : Same F1 (upd F1 a (.lst ws)) := fun b u e => by rw [upd_ne (ne_of_none e hF)]; exact e
    cases r with
    | val d => exact Rep.mono m d h1
    | ref i => exact h1
    | own ds =>
      obtain ⟨b, vs', e, e0, f, g, rr, no⟩ := h1
      have ne : b ≠ a := fun z => n 0 ds rfl (by rw [e, z]; rfl)
      exact ⟨b, vs', e, e0, by rw [upd_ne ne]; exact f, g, Reps.mono m _ rr, no⟩
  | [], _ :: _, h, _ => h.elim
  | _ :: _, [], h, _ => h.elim
/-- how an argument stands -/
def ArgIs (env1 : Mini.Env) (σ : L2.St) (v : V) (b : B) : RV → Prop
  | .ref i => b = Mini.get env1 i ∧ σ[i]? = some (some v)
  | _ => ∃ d, b = .val d
theorem args_ok : ∀ {vs : List V} {rs : List RV} {bs : List B} {F1 : Hp}, RE K F1 H1 env1 σ → Ext env0 σ0 F0 H env1 σ F1 H1 → RRs K H F1 H1 env1 σ vs rs → argB env1 rs = some bs →
    ∃ F2, Same F1 F2 ∧ RE K F2 H1 env1 σ ∧ Ext env0 σ0 F0 H env1 σ F2 H1 ∧ bs.length = vs.length ∧ ∀ (p : Nat) v, vs[p]? = some v → ∃ b r, bs[p]? = some b ∧ rs[p]? = some r ∧ SlotOk K F2 H1 (some (some v)) b ∧ ArgIs env1 σ v b r
  | [], [], bs, F1, h, x, q, e => by
    cases e
    exact ⟨F1, .refl _, h, x, rfl, fun p v e => by simp at e⟩
  | v :: vs, r :: rs, bs, F1, h, x, ⟨q1, q2, q3⟩, e => by
    simp only [argB, Option.bind_eq_some_iff, Option.map_eq_some_iff] at e
    obtain ⟨b, e1, bs', e2, rfl⟩ := e
    have fin : ∀ {F1' : Hp}, Same F1 F1' → RE K F1' H1 env1 σ → Ext env0 σ0 F0 H env1 σ F1' H1 → RRs K H F1' H1 env1 σ vs rs → (∀ F2, Same F1' F2 → RE K F2 H1 env1 σ → SlotOk K F2 H1 (some (some v)) b) → ArgIs env1 σ v b r →
        ∃ F2, Same F1 F2 ∧ RE K F2 H1 env1 σ ∧ Ext env0 σ0 F0 H env1 σ F2 H1 ∧ (b :: bs').length = (v :: vs).length ∧ ∀ (p : Nat) w, (v :: vs)[p]? = some w → ∃ b' r', (b :: bs')[p]? = some b' ∧ (r :: rs)[p]? = some r' ∧ SlotOk K F2 H1 (some (some w)) b' ∧ ArgIs env1 σ w b' r' := by
      intro F1' m h' x' q' s a
      obtain ⟨F2, m2, h2, x2, hl, g⟩ := args_ok h' x' q' e2
      refine ⟨F2, m.trans m2, h2, x2, by rw [List.length_cons, List.length_cons, hl], fun p w ew => ?_⟩
      cases p with
      | zero => simp at ew; subst ew; exact ⟨b, r, rfl, rfl, s F2 m2 h2, a⟩
      | succ p =>
        obtain ⟨b', r', z1, z2, z3⟩ := g p w (by simpa using ew)
        exact ⟨b', r', by simpa using z1, by simpa using z2, z3⟩
    cases r with
    | val d =>
      cases e1
      exact fin (.refl _) h x q2 (fun F2 m _ => ⟨v, rfl, Rep.mono m d q1⟩) ⟨d, rfl⟩
    | own xs =>
      cases e1
      obtain ⟨a, vs', rfl, e0, hF, hH, rr, no⟩ := q1
      have m : Same F1 (upd F1 a (.lst vs')) := fun b u e => by rw [upd_ne (ne_of_none e hF)]; exact e
      refine fin m (own_fz h hF hH no) ⟨x.mono.trans m, x.keep, x.live, fun b u z => ?_, x.cnew, x.onew⟩ (RRs.fz hF q2 (q3 xs rfl)) (fun F2 m2 _ => ⟨_, rfl, Rep.mono m2 _ (rep_vl hF rr)⟩) ⟨_, rfl⟩
      by_cases hb : b = a
      · exact .inr (.inl (by rw [hb]; exact e0))
      · rw [upd_ne hb] at z; exact x.fnew _ _ z
    | ref i =>
      have q1 : σ[i]? = some (some v) := q1
      have eb : b = Mini.get env1 i := by
        simp only [argB1] at e1
        split at e1 <;> cases e1 <;> simp_all
      refine fin (.refl _) h x q2 (fun F2 m h2 => ?_) ⟨eb, q1⟩
      have s := h2.slot i
      rw [q1, ← eb] at s
      exact s
  | [], _ :: _, _, _, _, _, h, _ => h.elim
  | _ :: _, [], _, _, _, _, h, _ => h.elim
theorem ref_mem : ∀ {rs : List RV} {j p : Nat}, rs[j]? = some (.ref p) → p ∈ refs rs
  | [], _, _, e => by simp at e
  | r :: rs, 0, p, e => by simp at e; subst e; simp [refs]
  | r :: rs, j + 1, p, e => by
    have := ref_mem (rs := rs) (j := j) (p := p) (by simpa using e)
    cases r <;> simp [refs, this]
theorem refs_tail {r : RV} {rs : List RV} (nd : (refs (r :: rs)).Nodup) : (refs rs).Nodup := by
  cases r <;> simp only [refs, List.nodup_cons] at nd <;> first | exact nd | exact nd.2
theorem refs_inj : ∀ {rs : List RV} {i j p : Nat}, (refs rs).Nodup → rs[i]? = some (.ref p) → rs[j]? = some (.ref p) → i = j
  | [], _, _, _, _, e, _ => by simp at e
  | r :: rs, 0, 0, _, _, _, _ => rfl
  | r :: rs, 0, j + 1, p, nd, e1, e2 => by
    simp at e1; subst e1
    simp only [refs, List.nodup_cons] at nd
    exact absurd (ref_mem (j := j) (by simpa using e2)) nd.1
  | r :: rs, i + 1, 0, p, nd, e1, e2 => by
    simp at e2; subst e2
    simp only [refs, List.nodup_cons] at nd
    exact absurd (ref_mem (j := i) (by simpa using e1)) nd.1
  | r :: rs, i + 1, j + 1, p, nd, e1, e2 => by rw [refs_inj (i := i) (j := j) (refs_tail nd) (by simpa using e1) (by simpa using e2)]
/-- what lies behind a call: a name either keeps what it held or takes back what it lent -/
def BackAt (env env2 : Mini.Env) (rs : List RV) (bs : List B) (i : Nat) : Prop :=
  (Mini.get env2 i = Mini.get env i ∧ ∀ xs, Mini.get env i = .cell xs → i ∉ refs rs) ∨
    ∃ (p : Nat) (b : B) (xs : List D), rs[p]? = some (.ref i) ∧ bs[p]? = some b ∧ Mini.get env i = .cell xs ∧ ((∃ ys, (b = .cell ys ∨ b = .lock ys) ∧ Mini.get env2 i = .cell ys) ∨ ∃ d, b = .val d ∧ Mini.get env2 i = .val d)
theorem back_at : ∀ {rs : List RV} {bs : List B} {env env2 : Mini.Env}, (refs rs).Nodup → backB env rs bs = some env2 → env2.length = env.length ∧ ∀ i, BackAt env env2 rs bs i
  | [], [], env, env2, _, e => by
    cases e
    exact ⟨rfl, fun i => .inl ⟨rfl, fun _ _ h => by simp [refs] at h⟩⟩
  | r :: rs, b :: bs, env, env2, nd, e => by
    have skip : (∀ i, r ≠ .ref i) → backB env rs bs = some env2 → env2.length = env.length ∧ ∀ i, BackAt env env2 (r :: rs) (b :: bs) i := by
      intro hr e
      have er : refs (r :: rs) = refs rs := by cases r <;> first | rfl | exact absurd rfl (hr _)
      rw [er] at nd
      obtain ⟨hl, g⟩ := back_at nd e
      refine ⟨hl, fun i => ?_⟩
      rcases g i with ⟨g1, g2⟩ | ⟨p, b', xs, g1, g2, g3⟩
      · exact .inl ⟨g1, by rw [er]; exact g2⟩
      · exact .inr ⟨p + 1, b', xs, by simpa using g1, by simpa using g2, g3⟩
    cases r with
    | val d => exact skip (fun i z => nomatch z) (by simpa [backB] using e)
    | own d => exact skip (fun i z => nomatch z) (by simpa [backB] using e)
    | ref j =>
      simp only [backB, Option.bind_eq_some_iff] at e
      obtain ⟨env1, e1, e2⟩ := e
      simp only [refs, List.nodup_cons] at nd
      obtain ⟨hl, g⟩ := back_at nd.2 e2
      have hj : Mini.get env2 j = Mini.get env1 j := by
        rcases g j with ⟨g1, _⟩ | ⟨p, _, _, g1, _⟩
        · exact g1
        · exact absurd (ref_mem g1) nd.1
      have other : env1.length = env.length ∧ ∀ i, i ≠ j → Mini.get env1 i = Mini.get env i := by
        unfold back1 at e1
        split at e1 <;> cases e1
        all_goals first
          | exact ⟨rfl, fun _ _ => rfl⟩
          | exact ⟨List.length_set, fun i hi => by rw [get_set, if_neg (fun z => hi z.1.symm)]⟩
      refine ⟨hl.trans other.1, fun i => ?_⟩
      by_cases hi : i = j
      · subst hi
        have lt : ∀ ys, Mini.get env i = .cell ys → i < env.length := fun ys z => get_lt (by rw [z]; exact fun w => nomatch w)
        unfold back1 at e1
        split at e1
        · rename_i xs ys hg
          cases e1
          exact .inr ⟨0, _, xs, rfl, rfl, hg, .inl ⟨ys, .inl rfl, by rw [hj, get_set, if_pos ⟨rfl, lt _ hg⟩]⟩⟩
        · rename_i xs ys hg
          cases e1
          exact .inr ⟨0, _, xs, rfl, rfl, hg, .inl ⟨ys, .inr rfl, by rw [hj, get_set, if_pos ⟨rfl, lt _ hg⟩]⟩⟩
        · rename_i xs d hg
          cases e1
          exact .inr ⟨0, _, xs, rfl, rfl, hg, .inr ⟨d, rfl, by rw [hj, get_set, if_pos ⟨rfl, lt _ hg⟩]⟩⟩
        · rename_i hg
          cases e1
          exact .inl ⟨hj, fun xs z => by rw [z] at hg; cases hg⟩
        · rename_i hg
          cases e1
          exact .inl ⟨hj, fun xs z => by rw [z] at hg; cases hg⟩
        · cases e1
      · rcases g i with ⟨g1, g2⟩ | ⟨p, b', xs, g1, g2, g3, g4⟩
        · refine .inl ⟨g1.trans (other.2 i hi), fun xs z hm => ?_⟩
          simp only [refs, List.mem_cons] at hm
          rcases hm with hm | hm
          · exact hi hm
          · exact g2 xs ((other.2 i hi).trans z) hm
        · exact .inr ⟨p + 1, b', xs, by simpa using g1, by simpa using g2, (other.2 i hi).symm.trans g3, g4⟩
  | [], _ :: _, _, _, _, e => nomatch e
  | r :: _, [], _, _, _, e => by cases r <;> cases e
/-- a call's end -/
theorem call_end {F' H' : Hp} {vs : List V} {rs : List RV} {bs bs' : List B} {env2 : Mini.Env} (h : RE K F2 H1 env1 σ) (nd : (refs rs).Nodup) (hl : bs.length = vs.length)
    (g : ∀ (p : Nat) v, vs[p]? = some v → ∃ b r, bs[p]? = some b ∧ rs[p]? = some r ∧ SlotOk K F2 H1 (some (some v)) b ∧ ArgIs env1 σ v b r) (hb : backB env1 rs bs' = some env2)
    (re : RE K F' H' bs' (vs.map some)) (x : Ext bs (vs.map some) F2 H1 bs' (vs.map some) F' H') : RE K F' H' env2 σ ∧ Ext env1 σ F2 H1 env2 σ F' H' := by
  obtain ⟨hl2, ba⟩ := back_at nd hb
  -- an argument's own list is a name's
  have lent : ∀ p a, OwnS bs (vs.map some) p a → ∃ i, rs[p]? = some (.ref i) ∧ OwnS env1 σ i a ∧ (CellS bs (vs.map some) p a → CellS env1 σ i a) := by
    rintro p a ⟨⟨xs, e⟩, s⟩
    rw [List.getElem?_map] at s
    cases hv : vs[p]? with
    | none => rw [hv] at s; cases s
    | some v =>
      rw [hv] at s; cases s
      obtain ⟨b, r, e1, e2, _, ar⟩ := g p _ hv
      have eb : Mini.get bs p = b := by unfold Mini.get; rw [List.getD_eq_getElem?_getD, e1]; rfl
      cases r with
      | ref i =>
        obtain ⟨a1, a2⟩ := ar
        rw [eb, a1] at e
        exact ⟨i, e2, ⟨⟨xs, e⟩, a2⟩, fun ⟨⟨ys, c⟩, _⟩ => ⟨⟨ys, by rw [eb, a1] at c; exact c⟩, a2⟩⟩
      | val d => obtain ⟨d', ed⟩ := ar; rw [eb, ed] at e; rcases e with e | e <;> cases e
      | own d => obtain ⟨d', ed⟩ := ar; rw [eb, ed] at e; rcases e with e | e <;> cases e
  have kept : ∀ i a, OwnS env1 σ i a → (∀ xs, Mini.get env1 i = .cell xs → i ∉ refs rs) → F' a = none ∧ H' a = H1 a := by
    intro i a o nr
    obtain ⟨hF, ws, hH⟩ := h.own o
    have nc : ∀ p, ¬ CellS bs (vs.map some) p a := fun p c => by
      obtain ⟨i', e, o', c'⟩ := lent p a c.own
      have := h.dis i i' a o o'
      subst this
      obtain ⟨⟨xs, e'⟩, _⟩ := c' c
      exact nr xs e' (ref_mem e)
    refine ⟨?_, (x.keep a _ hH nc).trans hH.symm⟩
    cases z : F' a with
    | none => rfl
    | some u =>
      rcases x.fnew a u z with w | w | ⟨p, w⟩
      · rw [hF] at w; cases w
      · rw [hH] at w; cases w
      · exact absurd w (nc p)
  have own2 : ∀ i a, OwnS env2 σ i a → OwnS env1 σ i a ∧ (CellS env2 σ i a → CellS env1 σ i a) := by
    rintro i a ⟨⟨xs, e⟩, s⟩
    rcases ba i with ⟨b1, _⟩ | ⟨p, b, ys, _, _, b3, _⟩
    · rw [b1] at e
      exact ⟨⟨⟨xs, e⟩, s⟩, fun ⟨⟨zs, c⟩, _⟩ => ⟨⟨zs, by rw [← b1]; exact c⟩, s⟩⟩
    · exact ⟨⟨⟨ys, .inl b3⟩, s⟩, fun _ => ⟨⟨ys, b3⟩, s⟩⟩
  refine ⟨⟨re.sub, hl2.trans h.len, fun i => ?_, fun i j a o1 o2 => h.dis i j a (own2 i a o1).1 (own2 j a o2).1⟩, x.mono, fun a o e n => x.keep a o e fun p c => ?_, x.live, fun a o e => ?_, fun i a c => .inl ((own2 i a c.own).2 c), fun i a o => .inl (own2 i a o).1⟩
  · rcases ba i with ⟨b1, b2⟩ | ⟨p, b, ys, b1, b2, b3, b4⟩
    · rw [b1]
      have s := h.slot i
      generalize hbb : Mini.get env1 i = bb at s
      cases bb with
      | no => trivial
      | val d => obtain ⟨y, e, r⟩ := s; exact ⟨y, e, Rep.mono x.mono d r⟩
      | cell ds =>
        obtain ⟨a, us, e, f, hh, rr⟩ := s
        obtain ⟨k1, k2⟩ := kept i a ⟨⟨ds, .inl hbb⟩, e⟩ b2
        exact ⟨a, us, e, k1, by rw [k2]; exact hh, Reps.mono x.mono _ rr⟩
      | lock ds =>
        obtain ⟨a, us, e, f, hh, rr⟩ := s
        obtain ⟨k1, k2⟩ := kept i a ⟨⟨ds, .inr hbb⟩, e⟩ b2
        exact ⟨a, us, e, k1, by rw [k2]; exact hh, Reps.mono x.mono _ rr⟩
    · have hp : p < vs.length := by
        have := re.len
        rw [List.length_map] at this
        have := (List.getElem?_eq_some_iff.mp b2).1
        omega
      obtain ⟨b0, r0, _, e2, _, ar⟩ := g p vs[p] (List.getElem?_eq_getElem hp)
      rw [b1] at e2; cases e2
      obtain ⟨_, hs⟩ := ar
      have s := re.slot p
      rw [List.getElem?_map, List.getElem?_eq_getElem hp] at s
      have eb : Mini.get bs' p = b := by unfold Mini.get; rw [List.getD_eq_getElem?_getD, b2]; rfl
      rw [eb] at s
      rw [hs]
      rcases b4 with ⟨zs, hz, e⟩ | ⟨d, hz, e⟩
      · rw [e]
        rcases hz with hz | hz <;> (rw [hz] at s; exact s)
      · rw [e]; rw [hz] at s; exact s
  · obtain ⟨i, _, _, c'⟩ := lent p a c.own
    exact n i (c' c)
  · rcases x.fnew a o e with w | w | ⟨p, w⟩
    · exact .inl w
    · exact .inr (.inl w)
    · obtain ⟨i, _, _, c'⟩ := lent p a w.own
      exact .inr (.inr ⟨i, c' w⟩)
end
end MS

/-! Expressions: calls, built-ins, pop. -/
namespace MS
open PySem PySem.Spec PyProof.Rows L2 Mini

theorem own_back {K : Frag} {H1 F2 : Hp} {env1 env2 : Mini.Env} {σ : L2.St} {rs : List RV} {bs' : List B} (nd : (refs rs).Nodup) (hb : backB env1 rs bs' = some env2) : ∀ i a, OwnS env2 σ i a → OwnS env1 σ i a := by
  rintro i a ⟨⟨xs, e⟩, s⟩
  rcases (back_at nd hb).2 i with ⟨b1, _⟩ | ⟨p, b, ys, _, _, b3, _⟩
  · rw [b1] at e; exact ⟨⟨xs, e⟩, s⟩
  · exact ⟨⟨ys, .inl b3⟩, s⟩
section
variable {c : Cfg} {G : List D} {Φ : Calls} {k : Nat} {X : Cx} {sc : Scope}
theorem noStars {pos : Pos} {v : PySem.Env} : ∀ {es : List Expr} {ms : Es}, All2 X G Φ es ms → (backTo pos (starEach es v)).any (·.1) = false
  | _, _, .nil => rfl
  | _, _, .cons pl _ _ r => by
    rw [star_pl pl]
    show (false || (backTo pos (starEach _ v)).any (·.1)) = false
    rw [noStars r]
    rfl
/-- the arguments, as a callee's names -/
theorem bs_re {K : Frag} {H1 F2 : Hp} {env1 : Mini.Env} {σ : L2.St} {vs : List V} {rs : List RV} {bs : List B} (h : RE K F2 H1 env1 σ) (nd : (refs rs).Nodup) (hl : bs.length = vs.length)
    (g : ∀ (p : Nat) v, vs[p]? = some v → ∃ b r, bs[p]? = some b ∧ rs[p]? = some r ∧ SlotOk K F2 H1 (some (some v)) b ∧ ArgIs env1 σ v b r) : RE K F2 H1 bs (vs.map some) := by
  refine ⟨h.sub, by rw [List.length_map]; exact hl, fun i => ?_, fun i j a o1 o2 => ?_⟩
  · by_cases hi : i < vs.length
    · obtain ⟨b, r, e1, _, s, _⟩ := g i vs[i] (List.getElem?_eq_getElem hi)
      have eb : Mini.get bs i = b := by unfold Mini.get; rw [List.getD_eq_getElem?_getD, e1]; rfl
      rw [eb, List.getElem?_map, List.getElem?_eq_getElem hi]
      exact s
    · have eb : Mini.get bs i = .no := by unfold Mini.get; rw [List.getD_eq_getElem?_getD, List.getElem?_eq_none (by omega)]; rfl
      rw [eb]; trivial
  · have ar : ∀ p, OwnS bs (vs.map some) p a → ∃ q, rs[p]? = some (.ref q) ∧ OwnS env1 σ q a := by
      rintro p ⟨⟨xs, e⟩, s⟩
      rw [List.getElem?_map] at s
      cases hv : vs[p]? with
      | none => rw [hv] at s; cases s
      | some v =>
        rw [hv] at s; cases s
        obtain ⟨b, r, e1, e2, _, ar⟩ := g p _ hv
        have eb : Mini.get bs p = b := by unfold Mini.get; rw [List.getD_eq_getElem?_getD, e1]; rfl
        cases r with
        | ref i =>
          obtain ⟨a1, a2⟩ := ar
          rw [eb, a1] at e
          exact ⟨i, e2, ⟨⟨xs, e⟩, a2⟩⟩
        | val d => obtain ⟨d', ed⟩ := ar; rw [eb, ed] at e; rcases e with e | e <;> cases e
        | own d => obtain ⟨d', ed⟩ := ar; rw [eb, ed] at e; rcases e with e | e <;> cases e
    obtain ⟨p, e1, p1⟩ := ar i o1
    obtain ⟨q, e2, q1⟩ := ar j o2
    have := h.dis p q a p1 q1
    subst this
    exact refs_inj nd e1 e2
theorem x_call (O : Ok c G Φ k X sc) {f : Nat} {x : Str} {es : List Expr} {ms : Es} {p pos : Pos} (hf : isAt c.FT f x = true) (hg : glB sc x = true) (hn : es ≠ []) (h : All2 X G Φ es ms) : SE X G Φ (.Call (.Name x p) es [] pos) (.call f ms) := by
  obtain ⟨a, fd, ps, hm, hk, hb, FO, hd⟩ := O.fs f x (isAt_get hf)
  cases h with
  | nil => exact absurd rfl hn
  | cons pl he ht r =>
    refine PE.imp (pe_call (E := fun _ _ _ => False) FO O.room (O.gl hg) hm hk hb .nil (fun _ _ _ _ _ _ _ z => z.elim) (a_rs (.cons pl he ht r)) hd (star_pl pl) (noStars r)) fun σ H Q ⟨env, F, r, env', hre, hev, q⟩ => ?_
    simp only [evX, fin_f, Option.bind_eq_some_iff] at hev
    obtain ⟨⟨rs, e1⟩, h1, h2⟩ := hev
    refine ⟨env, F, rs, e1, hre, h1, fun vs F1 H1 re1 x1 q1 => ?_⟩
    show spF X.K Φ f (vs ++ []) H1 Q _
    rw [List.append_nil]
    unfold callB at h2
    dsimp only at h2
    split at h2
    · rename_i nd
      simp only [Option.bind_eq_some_iff] at h2
      obtain ⟨bs, h3, ⟨r', bs'⟩, h4, h5⟩ := h2
      dsimp only at h5
      split at h5
      · rename_i nr
        simp only [Option.map_eq_some_iff] at h5
        obtain ⟨env2, h6, h7⟩ := h5
        cases h7
        obtain ⟨F2, m2, re2, x2, hl, g⟩ := args_ok re1 x1 q1 h3
        refine ⟨F2, bs, r, bs', bs_re re2 nd hl g, h4, fun v F' H' re' x' q' => ?_⟩
        obtain ⟨re3, x3⟩ := call_end re2 nd hl g h6 re' x'
        refine q v F' H' re3 (x2.trans x3) ?_
        cases r with
        | val d => exact q'
        | ref i => cases nr
        | own ds =>
          obtain ⟨b, ws, e, h0, hF, hH, rr, no⟩ := q'
          refine ⟨b, ws, e, x2.free h0, hF, hH, rr, fun i o => ?_⟩
          obtain ⟨_, _, z⟩ := re2.own (own_back (K := X.K) (H1 := H1) (F2 := F2) nd h6 i b o)
          rw [h0] at z; cases z
      · cases h5
    · cases h2

/-! ### built-ins -/
theorem rdds {K : Frag} {H0 F H : Hp} {env : Mini.Env} {σ : L2.St} (h : RE K F H env σ) : ∀ {vs : List V} {rs : List RV} {ds : List D}, RRs K H0 F H env σ vs rs → pks env rs = some ds → RdDs K F H vs ds
  | [], [], ds, _, e => by cases e; trivial
  | v :: vs, r :: rs, ds, ⟨q1, q2, _⟩, e => by
    simp only [pks, Option.bind_eq_some_iff, Option.map_eq_some_iff] at e
    obtain ⟨d, e1, ds', e2, rfl⟩ := e
    exact ⟨pk_ok h q1 e1, rdds h q2 e2⟩
  | [], _ :: _, _, h, _ => h.elim
  | _ :: _, [], _, h, _ => h.elim
theorem core_bi {b : Bi} {ms : Es} : ∀ σ H Q, tX X.K G Φ (.bi b ms) σ H Q → tCB (rBn X.K (bip b)) (tRs X.K G Φ ms) σ H Q := fun σ H Q ⟨env, F, r, env', hre, hev, q⟩ => by
  simp only [evX, fin_f, Option.bind_eq_some_iff, Option.map_eq_some_iff] at hev
  obtain ⟨⟨rs, e1⟩, h1, ds, h2, r', h3, h4⟩ := hev
  cases h4
  refine ⟨env, F, rs, e1, hre, h1, fun vs F1 H1 re1 x1 q1 => ⟨F1, ds, r, re1.sub, rdds re1 q1 h2, h3, fun v F' H' bo => ?_⟩⟩
  obtain ⟨re2, x2, q2⟩ := bo.go re1
  exact q v F' H' re2 (x1.trans x2) (MS.back q2 x1)
theorem bt_len : bootBuiltins "len" = some (.builtin "len") := by decide +kernel
theorem bt_sum : bootBuiltins "sum" = some (.builtin "sum") := by decide +kernel
theorem bt_min : bootBuiltins "min" = some (.builtin "min") := by decide +kernel
theorem bt_max : bootBuiltins "max" = some (.builtin "max") := by decide +kernel
theorem bt_abs : bootBuiltins "abs" = some (.builtin "abs") := by decide +kernel
theorem bt_sorted : bootBuiltins "sorted" = some (.builtin "sorted") := by decide +kernel
theorem bt_all : bootBuiltins "all" = some (.builtin "all") := by decide +kernel
theorem bt_any : bootBuiltins "any" = some (.builtin "any") := by decide +kernel
theorem bt_isi : bootBuiltins "isinstance" = some (.builtin "isinstance") := by decide +kernel
theorem bt_int : bootBuiltins "int" = some (.type "int") := by decide +kernel
theorem bt_tuple : bootBuiltins "tuple" = some (.type "tuple") := by decide +kernel
theorem bt_list : bootBuiltins "list" = some (.type "list") := by decide +kernel
theorem bt_bool : bootBuiltins "bool" = some (.type "bool") := by decide +kernel
theorem bt_str : bootBuiltins "str" = some (.type "str") := by decide +kernel
theorem x_bi (O : Ok c G Φ k X sc) {b : Bi} {x : Str} {es : List Expr} {ms : Es} {p pos : Pos} (hg : glB sc x = true) (hx : x = (biN b).1) (hb : isiB b = false) (hc : b = .gcd → c.gcd = true) (hn : es ≠ []) (h : All2 X G Φ es ms) : SE X G Φ (.Call (.Name x p) es [] pos) (.bi b ms) := by
  subst hx
  have hG := O.gl hg
  have hm : ∀ y, y ∈ biNames → X.mg y = none := O.bi
  cases h with
  | nil => exact absurd rfl hn
  | cons pl he ht r =>
    have ha := a_rs (.cons pl he ht r)
    cases b <;> first | (cases hb; done) | skip
    case len => exact PE.imp (pe_callB bi_len hG (hm _ (by decide)) bt_len ha (by decide) (by decide) (star_pl pl) (noStars r)) core_bi
    case sum => exact PE.imp (pe_callB (bi_sum O.calm) hG (hm _ (by decide)) bt_sum ha (by decide) (by decide) (star_pl pl) (noStars r)) core_bi
    case min1 => exact PE.imp (pe_callB (bi_minmax O.calm O.units true) hG (hm _ (by decide)) bt_min ha (by decide) (by decide) (star_pl pl) (noStars r)) core_bi
    case max1 => exact PE.imp (pe_callB (bi_minmax O.calm O.units false) hG (hm _ (by decide)) bt_max ha (by decide) (by decide) (star_pl pl) (noStars r)) core_bi
    case min2 => exact PE.imp (pe_callB (bi_min2 O.calm) hG (hm _ (by decide)) bt_min ha (by decide) (by decide) (star_pl pl) (noStars r)) core_bi
    case max2 => exact PE.imp (pe_callB (bi_max2 O.calm) hG (hm _ (by decide)) bt_max ha (by decide) (by decide) (star_pl pl) (noStars r)) core_bi
    case abs => exact PE.imp (pe_callB bi_abs hG (hm _ (by decide)) bt_abs ha (by decide) (by decide) (star_pl pl) (noStars r)) core_bi
    case int => exact PE.imp (pe_callTy bi_int hG (hm _ (by decide)) bt_int ha (by decide) (by decide) (star_pl pl) (noStars r)) core_bi
    case tuple => exact PE.imp (pe_callTy bi_tuple hG (hm _ (by decide)) bt_tuple ha (by decide) (by decide) (star_pl pl) (noStars r)) core_bi
    case list => exact PE.imp (pe_callTy bi_list hG (hm _ (by decide)) bt_list ha (by decide) (by decide) (star_pl pl) (noStars r)) core_bi
    case sorted => exact PE.imp (pe_callB (bi_sorted O.units) hG (hm _ (by decide)) bt_sorted ha (by decide) (by decide) (star_pl pl) (noStars r)) core_bi
    case all => exact PE.imp (pe_callB (bi_all O.calm) hG (hm _ (by decide)) bt_all ha (by decide) (by decide) (star_pl pl) (noStars r)) core_bi
    case any => exact PE.imp (pe_callB (bi_any O.calm) hG (hm _ (by decide)) bt_any ha (by decide) (by decide) (star_pl pl) (noStars r)) core_bi
    case gcd => exact PE.imp (StS.pe_callG bi_gcd hG (O.gcd (hc rfl)) ha (by decide) (star_pl pl) (noStars r)) core_bi
theorem x_isi (O : Ok c G Φ k X sc) {b : Bi} {x y : Str} {e : Expr} {m : E} {p p' pos : Pos} (hg : glB sc x = true) (hgy : glB sc y = true) (hx : x = "isinstance") (hy : some y = (biN b).2) (hb : isiB b = true) (pl : plX e = true) (he : SE X G Φ e m) : SE X G Φ (.Call (.Name x p) [e, .Name y p'] [] pos) (.bi b (.cons m .nil)) := by
  subst hx
  have ht : PE X (.Name y p') (tC (.ty (isiN b))) := by
    have hm : ∀ y, y ∈ biNames → X.mg y = none := O.bi
    have hG := O.gl hgy
    cases b <;> first | (cases hb; done) | skip
    all_goals (cases hy; first | exact pe_bltn hG (hm _ (by decide)) bt_bool rfl | exact pe_bltn hG (hm _ (by decide)) bt_int rfl | exact pe_bltn hG (hm _ (by decide)) bt_str rfl | exact pe_bltn hG (hm _ (by decide)) bt_tuple rfl)
  refine PE.imp (pe_callB (bi_isi hb) (O.gl hg) (O.bi _ (by decide)) bt_isi (pa_cons he (pa_cons ht pa_nil) (star_pl pl)) (by decide) (by decide) (star_pl pl) rfl) fun σ H Q ⟨env, F, r, env', hre, hev, q⟩ => ?_
  simp only [evX, evRs, fin_f, Option.bind_eq_some_iff, Option.map_eq_some_iff] at hev
  obtain ⟨⟨rs, e1⟩, ⟨⟨r1, e2⟩, h1, ⟨rs', e3⟩, h1', h1''⟩, ds, h2, r', h3, h4⟩ := hev
  cases h1'; cases h1''; cases h4
  refine ⟨env, F, r1, _, hre, h1, fun v1 F1 H1 re1 x1 q1 => ?_⟩
  simp only [pks, Option.bind_eq_some_iff, Option.map_eq_some_iff] at h2
  obtain ⟨d, h5, ds', h6, h7⟩ := h2
  cases h6; cases h7
  refine ⟨v1, F1, d, r, rfl, re1.sub, pk_ok re1 q1 h5, h3, fun v F' H' bo => ?_⟩
  obtain ⟨re2, x2, q2⟩ := bo.go re1
  exact q v F' H' re2 (x1.trans x2) (MS.back q2 x1)

/-! ### list(range(..)), tuple(range(..)) -/
theorem rgV_reps {K : Frag} {F : Hp} (i j : Int) : Reps K F (rngList i (j - i).toNat 1) (rgV i j) := by
  unfold rngList rgV
  have : ∀ l : List Nat, Reps K F (l.map fun (k : Nat) => D.int (i + k * 1)) (l.map fun (k : Nat) => V.int (i + (k : Nat))) := by
    intro l
    induction l with
    | nil => rfl
    | cons a l ih => exact ⟨_, _, rfl, by show V.int _ = V.int _; rw [Int.mul_one], ih⟩
  exact this _
theorem rngOk_ok {i : Int} (h : rngOk i = true) : -(2 ^ 62) ≤ i ∧ i < 2 ^ 62 := by
  have : i.natAbs < 2 ^ 62 := of_decide_eq_true h
  omega
theorem x_brng (O : Ok c G Φ k X sc) {b : Bi} {x y : Str} {es : List Expr} {ms : Es} {p p' pos pos' : Pos} (hr : rngBi b = true) (hl : Es.len ms ≤ 2) (hx : x = (biN b).1) (hg : glB sc x = true) (hy : y = "range") (hgy : glB sc y = true) (hn : es ≠ []) (h : All2 X G Φ es ms) :
    SE X G Φ (.Call (.Name x p) [.Call (.Name y p') es [] pos'] [] pos) (.bi b (.cons (.rng ms) .nil)) := by
  subst hx; subst hy
  have hm : ∀ y, y ∈ biNames → X.mg y = none := O.bi
  -- the range
  have key : ∃ te, PRg X (.Call (.Name "range" p') es [] pos') te ∧ ∀ σ H (Q : Int → Int → Hp → Prop) env F xs env', RE X.K F H env σ → evX G Φ (.rng ms) false env = some (.own xs, env') →
      (∀ i j F' H', RE X.K F' H' env' σ → Ext env σ F H env' σ F' H' → xs = rngList i (j - i).toNat 1 → RgOk i j → Q i j H') → te σ H Q := by
    cases h with
    | nil => exact absurd rfl hn
    | cons pl he ht r =>
      cases r with
      | nil =>
        refine ⟨_, prg_1 (O.gl hgy) (hm _ (by decide)) he (star_pl pl), fun σ H Q env F xs env' hre hev q => ?_⟩
        simp only [evX, evRs, fin_f, Option.bind_eq_some_iff, Option.map_eq_some_iff] at hev
        obtain ⟨⟨rs, e1⟩, ⟨⟨r1, e2⟩, h1, ⟨rs', e3⟩, h1', h1''⟩, ds, h2, xs', h3, xs'', h4, h5⟩ := hev
        cases h1'; cases h1''; cases h5
        obtain ⟨rfl, hlim⟩ := lim_ok h4
        refine ⟨env, F, r1, _, hre, h1, fun v1 F1 H1 re1 x1 q1 => ?_⟩
        simp only [pks, Option.bind_eq_some_iff, Option.map_eq_some_iff] at h2
        obtain ⟨d, h5, ds', h6, h7⟩ := h2
        cases h6; cases h7
        have rd := pk_ok re1 q1 h5
        cases d <;> first | (cases h3; done) | skip
        rename_i j
        simp only [rngD] at h3
        split at h3 <;> cases h3
        rename_i hj
        obtain ⟨b1, b2⟩ := rngOk_ok hj
        refine ⟨j, rd, q 0 j F1 H1 re1 x1 (by rw [Int.sub_zero]) ⟨by decide, by decide, b1, b2, ?_⟩⟩
        simp only [rngList, List.length_map, List.length_range] at hlim
        rw [Int.sub_zero]
        rw [sizeLine_eq] at hlim
        omega
      | cons pl' he' ht' r' =>
        cases r' with
        | cons => simp only [Es.len] at hl; omega
        | nil =>
          refine ⟨_, prg_2 (O.gl hgy) (hm _ (by decide)) he he' (star_pl pl) (star_pl pl') (by rw [star_pl pl']; rfl), fun σ H Q env F xs env' hre hev q => ?_⟩
          simp only [evX, evRs, fin_f, Option.bind_eq_some_iff, Option.map_eq_some_iff] at hev
          obtain ⟨⟨rs, e1⟩, ⟨⟨r1, e2⟩, h1, ⟨rs', e3⟩, ⟨⟨r2, e4⟩, h1', ⟨rs3, e5⟩, h1a, h1b⟩, h1''⟩, ds, h2, xs', h3, xs'', h4, h5⟩ := hev
          cases h1a; cases h1b; cases h1''; cases h5
          obtain ⟨rfl, hlim⟩ := lim_ok h4
          refine ⟨env, F, r1, _, hre, h1, fun v1 F1 H1 re1 x1 q1 => ⟨_, F1, r2, _, re1, h1', fun v2 F2 H2 re2 x2 q2 => ?_⟩⟩
          simp only [pks, Option.bind_eq_some_iff, Option.map_eq_some_iff] at h2
          obtain ⟨d, h5, ds', ⟨d2, h5', ds3, h6, h6'⟩, h7⟩ := h2
          cases h6; cases h6'; cases h7
          have rd := pk_ok re2 (later q1 x2) h5
          have rd2 := pk_ok re2 q2 h5'
          cases d <;> first | (cases h3; done) | skip
          cases d2 <;> first | (cases h3; done) | skip
          rename_i i j
          simp only [rngD] at h3
          split at h3 <;> cases h3
          rename_i hj
          simp only [Bool.and_eq_true] at hj
          obtain ⟨b1, b2⟩ := rngOk_ok hj.1
          obtain ⟨b3, b4⟩ := rngOk_ok hj.2
          refine ⟨i, j, rd, rd2, q i j F2 H2 re2 (x1.trans x2) rfl ⟨b1, b2, b3, b4, ?_⟩⟩
          simp only [rngList, List.length_map, List.length_range] at hlim
          rw [sizeLine_eq] at hlim
          omega
  obtain ⟨te, hp, ht⟩ := key
  have own : ∀ {env : Mini.Env} {r env'}, evX G Φ (.rng ms) false env = some (r, env') → ∃ xs, r = .own xs := by
    intro env r env' hev
    simp only [evX, fin_f, Option.bind_eq_some_iff, Option.map_eq_some_iff] at hev
    obtain ⟨_, _, _, _, _, _, xs, _, e⟩ := hev
    cases e
    exact ⟨xs, rfl⟩
  cases b <;> first | (cases hr; done) | skip
  case list =>
    refine PE.imp (pe_listRg O.calm (O.gl hg) (hm _ (by decide)) hp rfl) fun σ H Q ⟨env, F, r, env', hre, hev, q⟩ => ?_
    rw [evX] at hev
    simp only [evRs, fin_f, Option.bind_eq_some_iff, Option.map_eq_some_iff] at hev
    obtain ⟨⟨rs, e1⟩, ⟨⟨r1, e2⟩, h1, ⟨rs', e3⟩, h1', h1''⟩, ds, h2, r', h3, h4⟩ := hev
    cases h1'; cases h1''; cases h4
    obtain ⟨xs, rfl⟩ := own h1
    cases h2
    cases h3
    refine ht σ H _ env F xs _ hre h1 fun i j F' H' re' x' ex ok => ⟨ok, fun p hp => ?_⟩
    obtain ⟨re2, x2, q2⟩ := (Born.lst re'.sub hp (rgV_reps i j)).go re'
    rw [← ex] at q2
    exact q _ _ _ re2 (x'.trans x2) (MS.back q2 x')
  case tuple =>
    refine PE.imp (pe_tupRg O.calm (O.gl hg) (hm _ (by decide)) hp rfl) fun σ H Q ⟨env, F, r, env', hre, hev, q⟩ => ?_
    rw [evX] at hev
    simp only [evRs, fin_f, Option.bind_eq_some_iff, Option.map_eq_some_iff] at hev
    obtain ⟨⟨rs, e1⟩, ⟨⟨r1, e2⟩, h1, ⟨rs', e3⟩, h1', h1''⟩, ds, h2, r', h3, h4⟩ := hev
    cases h1'; cases h1''; cases h4
    obtain ⟨xs, rfl⟩ := own h1
    cases h2
    cases h3
    refine ht σ H _ env F xs _ hre h1 fun i j F' H' re' x' ex ok => ⟨ok, fun p hp => ?_⟩
    obtain ⟨re2, x2, q2⟩ := (Born.tup re'.sub hp (rgV_reps i j)).go re'
    rw [← ex] at q2
    exact q _ _ _ re2 (x'.trans x2) (MS.back q2 x')

/-! ### pop -/
theorem x_pop (O : Ok c G Φ k X sc) {i : Nat} {x : Str} {p ap pos : Pos} (h : isAt c.N i x = true) (hv : visB sc x = true) (hl : (ap.endLine == pos.line) = true) : SE X G Φ (.Call (.Attribute (.Name x p) "pop" ap) [] [] pos) (.pop i) := by
  have hN := O.at_ h
  refine PE.imp (pe_bm0 PySem.F.plainAttrs_list PySem.F.slot_list_pop PySem.F.type_list_pop mt_pop (pe_var hN (O.vis hv) (O.dbg hN).1 (O.dbg hN).2) rfl hl) fun σ H Q ⟨env, F, r, env', hre, hev, q⟩ => ?_
  simp only [evX, fin_f, popL] at hev
  split at hev
  · rename_i xs hg
    simp only [Option.map_eq_some_iff] at hev
    obtain ⟨d, h1, h2⟩ := hev
    cases h2
    obtain ⟨a, vs, e, hF, hH, rr⟩ := hre.cell hg
    have hlen := rr.length
    have hne : xs ≠ [] := fun z => by rw [z] at h1; cases h1
    have hpos : 0 < xs.length := List.length_pos_iff.mpr hne
    rw [List.getLast?_eq_getElem?] at h1
    obtain ⟨y, e1, ry⟩ := rr.get h1
    rw [hlen] at e1
    refine ⟨_, e, .inl ⟨rfl, vs, .of hH⟩, a, vs, y, rfl, rfl, hH, e1, ?_⟩
    obtain ⟨re2, x2⟩ := cell_put hre .refl hg e rr.dropLast
    exact q y F _ re2 x2 ry
  · cases hev
theorem ixP_seq {n : Nat} {i : Int} {j : Nat} (h : ixP n i = some j) : seqIndex? i n = some j := by
  rw [ixP_eq] at h
  exact (ixN_seq h).1
theorem x_popAt (O : Ok c G Φ k X sc) {i : Nat} {x : Str} {e : Expr} {m : E} {p ap pos : Pos} (h : isAt c.N i x = true) (hv : visB sc x = true) (hl : (ap.endLine == pos.line) = true) (pl : plX e = true) (he : SE X G Φ e m) :
    SE X G Φ (.Call (.Attribute (.Name x p) "pop" ap) [e] [] pos) (.popAt i m) := by
  have hN := O.at_ h
  refine PE.imp (pe_bm PySem.F.plainAttrs_list PySem.F.slot_list_pop PySem.F.type_list_pop mt_popAt (pe_var hN (O.vis hv) (O.dbg hN).1 (O.dbg hN).2) (pa_cons he pa_nil (star_pl pl)) rfl (by rw [star_pl pl]; rfl) hl (star_pl pl) rfl) fun σ H Q ⟨env, F, r, env', hre, hev, q⟩ => ?_
  rw [evX] at hev
  rw [fin_f] at hev
  split at hev
  · rename_i xs0 hg0
    simp only [Option.bind_eq_some_iff] at hev
    obtain ⟨⟨ra, e1⟩, h1, y, h2, w, h3, h4⟩ := hev
    obtain ⟨a, vs0, ea, _, hH0, _⟩ := hre.cell hg0
    refine ⟨_, ea, .inl ⟨rfl, vs0, .of hH0⟩, env, F, ra, e1, hre, h1, fun v1 F1 H1 re1 x1 q1 => ?_⟩
    have rd := pk_ok re1 q1 h2
    cases y <;> first | (cases h3; done) | skip
    rename_i z
    cases h3
    simp only [popI] at h4
    split at h4
    · rename_i xs hg
      split at h4
      · rename_i hok
        obtain ⟨b1, b2⟩ := rngOk_ok hok
        simp only [Option.bind_eq_some_iff, Option.map_eq_some_iff] at h4
        obtain ⟨j, h5, d, h6, h7⟩ := h4
        cases h7
        obtain ⟨a', vs', ea', hF', hH', rr'⟩ := re1.cell hg
        rw [ea] at ea'; cases ea'
        obtain ⟨y, ey, ry⟩ := rr'.get h6
        rw [rr'.length] at h5
        obtain ⟨re2, x2⟩ := cell_put re1 x1 hg ea (rr'.erase j)
        exact ⟨a, vs', w, j, y, rfl, by rw [show v1 = V.int w from rd], hH', by omega, by omega, ixP_seq h5, ey, q y F1 _ re2 x2 ry⟩
      · cases h4
    · cases h4
  · cases hev
end
end MS

/-! Targets, what is walked, comprehensions. -/
namespace MS
open PySem PySem.Spec PyProof.Rows L2 Mini
theorem _root_.L2.PG.imp {X : Cx} {e : Expr} {t t' : TG} (h : PG X e t) (q : ∀ v σ H Q, t' v σ H Q → t v σ H Q) : PG X e t' := ⟨fun pins s σ H v u Q I r w => h.run pins s σ H v u Q I r (q v σ H Q w)⟩
theorem _root_.L2.PGs.imp {X : Cx} {e : List Expr} {t t' : TGs} (h : PGs X e t) (q : ∀ v σ H Q, t' v σ H Q → t v σ H Q) : PGs X e t' := ⟨fun pins s σ H v u Q I r w => h.run pins s σ H v u Q I r (q v σ H Q w)⟩
theorem _root_.L2.PI.imp {X : Cx} {tg e : Expr} {t t' : TI} (h : PI X tg e t) (q : ∀ σ H Q, t' σ H Q → t σ H Q) : PI X tg e t' := ⟨fun pins s σ H Q I w => h.run pins s σ H Q I (q σ H Q w)⟩
theorem _root_.L2.PI.or {X : Cx} {tg e : Expr} {t u : TI} (h : PI X tg e t) (g : PI X tg e u) : PI X tg e (fun σ H Q => t σ H Q ∨ u σ H Q) :=
  ⟨fun pins s σ H Q I w => w.elim (h.run pins s σ H Q I) (g.run pins s σ H Q I)⟩

/-- the names of sct may be stored to -/
structure Tg (X : Cx) (sct : Scope) : Prop where
  st : ∀ x, locB sct x = true → Loc X.env.scope x ∧ (X.fn x = true ∨ X.env.scope.names.lookup x = some .local)
def gT (K : Frag) (t : T) : TG := fun v σ H Q => ∃ env F d env', RE K F H env σ ∧ Rep K F d v ∧ bindT env t d = some env' ∧
  ∀ σ', RE K F H env' σ' → (∀ env0 σ0 F0 H0, Ext env0 σ0 F0 H0 env σ F H → Ext env0 σ0 F0 H0 env' σ' F H) → (∀ i, i ∉ tSl t → σ'[i]? = σ[i]?) → σ'.length = σ.length → Q σ' H
def gTs (K : Frag) (is : List Nat) : TGs := fun vs σ H Q => ∃ env F ds env', RE K F H env σ ∧ Reps K F ds vs ∧ setAll env is ds = some env' ∧
  ∀ σ', RE K F H env' σ' → (∀ env0 σ0 F0 H0, Ext env0 σ0 F0 H0 env σ F H → Ext env0 σ0 F0 H0 env' σ' F H) → (∀ i, i ∉ is → σ'[i]? = σ[i]?) → σ'.length = σ.length → Q σ' H
theorem setVal2 {K : Frag} {F H : Hp} {env : Mini.Env} {σ : L2.St} {v : V} (h : RE K F H env σ) (i : Nat) {d : D} (r : Rep K F d v) : RE K F H (env.set i (.val d)) (σ.set i (some v)) ∧ ∀ env0 σ0 F0 H0, Ext env0 σ0 F0 H0 env σ F H → Ext env0 σ0 F0 H0 (env.set i (.val d)) (σ.set i (some v)) F H := by
  by_cases hi : i < env.length
  · exact ⟨(h.setVal hi r).1, fun env0 σ0 F0 H0 x => x.setVal h hi r⟩
  · have hl := h.len
    rw [List.set_eq_of_length_le (by omega), List.set_eq_of_length_le (by omega)]
    exact ⟨h, fun _ _ _ _ x => x⟩
section
variable {c : Cfg} {G : List D} {Φ : Calls} {k : Nat} {X : Cx} {sc sct : Scope}
theorem g_name (O : Ok c G Φ k X sc) (W : Tg X sct) {i : Nat} {x : Str} {p : Pos} (h : isAt c.N i x = true) (hl : locB sct x = true) : PG X (.Name x p) (gT X.K (.nm i)) := by
  refine PG.imp (pg_name O.nodup (O.at_ h) (W.st x hl).1 (W.st x hl).2) fun v σ H Q ⟨env, F, d, env', hre, r, hb, q⟩ => ?_
  cases hb
  obtain ⟨re1, x1⟩ := setVal2 hre i r
  refine q _ re1 x1 (fun j hj => ?_) List.length_set
  rw [List.getElem?_set_ne (fun e => hj (by rw [← e]; exact List.mem_singleton_self i))]
theorem g_names (O : Ok c G Φ k X sc) (W : Tg X sct) : ∀ {is : List Nat} {es : List Expr}, chkN c.N sct is es = true → PGs X es (gTs X.K is) ∧ (assignEach es X.env).length = is.length ∧ (assignEach es X.env).findIdx? (·.1) = none
  | [], [], _ => by
    refine ⟨PGs.imp pgs_nil fun vs σ H Q ⟨env, F, ds, env', hre, r, hb, q⟩ => ?_, rfl, rfl⟩
    cases ds with
    | nil => cases hb; exact ⟨r, q σ hre (fun _ _ _ _ x => x) (fun _ _ => rfl) rfl⟩
    | cons => cases hb
  | [], _ :: _, h => nomatch h
  | _ :: _, [], h => nomatch h
  | i :: is, e :: es, h => by
    cases e <;> first | (cases h; done) | skip
    rename_i x p
    simp only [chkN, Bool.and_eq_true] at h
    obtain ⟨⟨h1, h2⟩, h3⟩ := h
    obtain ⟨g1, g2, g3⟩ := g_names O W h3
    refine ⟨PGs.imp (pgs_cons (g_name O W h1 h2) g1 rfl) fun vs σ H Q ⟨env, F, ds, env', hre, r, hb, q⟩ => ?_, by show _ + 1 = _; rw [g2]; rfl, ?_⟩
    · cases ds with
      | nil => cases hb
      | cons d ds =>
        obtain ⟨v, vs', e, r1, r2⟩ := r
        refine ⟨v, vs', e, env, F, d, _, hre, r1, rfl, fun σ1 re1 x1 a1 l1 => ⟨_, F, ds, env', re1, r2, hb, fun σ2 re2 x2 a2 l2 => q σ2 re2 (fun e0 s0 F0 H0 x => x2 _ _ _ _ (x1 _ _ _ _ x)) (fun j hj => ?_) (l2.trans l1)⟩⟩
        simp only [List.mem_cons, not_or] at hj
        rw [a2 j hj.2, a1 j (by simp [tSl]; exact hj.1)]
    · rw [show assignEach (.Name x p :: es) X.env = (false, assign (.Name x p) X.env) :: assignEach es X.env from rfl, List.findIdx?_cons]
      simp [g3]
theorem g_tg (O : Ok c G Φ k X sc) (W : Tg X sct) {t : T} {e : Expr} (h : chkTg c.N sct t e = true) : PG X e (gT X.K t) := by
  cases t with
  | nm i =>
    cases e <;> first | (cases h; done) | skip
    simp only [chkTg, Bool.and_eq_true] at h
    exact g_name O W h.1 h.2
  | tp is =>
    cases e <;> first | (cases h; done) | skip
    simp only [chkTg, Bool.and_eq_true] at h
    obtain ⟨g1, g2, g3⟩ := g_names O W h.1
    refine PG.imp (pg_tup O.calm g1 g2 g3) fun v σ H Q ⟨env, F, d, env', hre, r, hb, q⟩ => ?_
    cases d <;> first | (cases hb; done) | skip
    rename_i ds
    obtain ⟨a, vs, e, s, rr⟩ := r
    refine ⟨a, vs, e, sqT_mono hre.sub s, ?_, env, F, ds, env', hre, rr, hb, q⟩
    rw [← rr.length]
    have : ∀ (is : List Nat) (ds : List D) (env : Mini.Env), setAll env is ds = some env' → ds.length = is.length := by
      intro is
      induction is with
      | nil => intro ds env h; cases ds <;> first | rfl | cases h
      | cons i is ih => intro ds env h; cases ds with
        | nil => cases h
        | cons d ds => rw [List.length_cons, List.length_cons, ih ds _ h]
    exact this is ds env hb

/-! ### what is walked -/
structure IterOk (K : Frag) (J : It) (xs : List D) (env1 : Mini.Env) (σ : L2.St) (F H : Hp) : Prop where
  ex : ∃ Gd Yd, Walk J xs.length Gd Yd ∧ (∀ env2 σ2 F2 H2, RE K F2 H2 env2 σ2 → Ext env1 σ F H env2 σ2 F2 H2 → Gd H2) ∧
    ∀ i H x H', i < xs.length → Yd i H x H' → H' = H ∧ ∀ F2, Same F F2 → ∃ d, xs[i]? = some d ∧ Rep K F2 d x
theorem IterOk.lst {K : Frag} {xs : List D} {env1 : Mini.Env} {σ : L2.St} {F H : Hp} {a : Addr} {vs : List V} (r : Reps K F xs vs) (hG : ∀ env2 σ2 F2 H2, RE K F2 H2 env2 σ2 → Ext env1 σ F H env2 σ2 F2 H2 → SqL K H2 a vs) : IterOk K (Itl K a) xs env1 σ F H := by
  refine ⟨fun H => SqL K H a vs, YAt vs, by rw [r.length]; exact walk_list, hG, fun i H x H' hi y => ⟨y.1, fun F2 m => ?_⟩⟩
  obtain ⟨d, e, q⟩ := (Reps.mono m _ r).getV y.2
  exact ⟨d, e, q⟩
theorem IterOk.tup {K : Frag} {xs : List D} {env1 : Mini.Env} {σ : L2.St} {F H : Hp} {a : Addr} {vs : List V} (r : Reps K F xs vs) (hG : ∀ env2 σ2 F2 H2, RE K F2 H2 env2 σ2 → Ext env1 σ F H env2 σ2 F2 H2 → SqT K H2 a vs) : IterOk K (Itt K a) xs env1 σ F H := by
  refine ⟨fun H => SqT K H a vs, YAt vs, by rw [r.length]; exact walk_tup, hG, fun i H x H' hi y => ⟨y.1, fun F2 m => ?_⟩⟩
  obtain ⟨d, e, q⟩ := (Reps.mono m _ r).getV y.2
  exact ⟨d, e, q⟩
theorem IterOk.str {K : Frag} {s : List Nat} {env1 : Mini.Env} {σ : L2.St} {F H : Hp} : IterOk K (Its ⟨s.toArray⟩) (s.map fun c => .str [c]) env1 σ F H := by
  refine ⟨fun _ => True, fun i H v H' => H' = H ∧ ∃ c, (⟨s.toArray⟩ : Str).cps[i]? = some c ∧ v = .str ⟨#[c]⟩, by rw [List.length_map]; exact walk_str, fun _ _ _ _ _ _ => trivial, fun i H x H' hi y => ⟨y.1, fun F2 m => ?_⟩⟩
  obtain ⟨_, ch, e, ex⟩ := y
  refine ⟨.str [ch], ?_, ex⟩
  rw [List.getElem?_map]
  have : s[i]? = some ch := by simpa using e
  rw [this]; rfl
theorem rngList_get {lo c : Int} {n i : Nat} (h : i < n) : (rngList lo n c)[i]? = some (.int (lo + i * c)) := by
  unfold rngList
  rw [List.getElem?_map, List.getElem?_range h]
  rfl
theorem rngList_len {lo c : Int} {n : Nat} : (rngList lo n c).length = n := by unfold rngList; rw [List.length_map, List.length_range]
theorem IterOk.rng {K : Frag} {lo : Int} {n : Nat} {env1 : Mini.Env} {σ : L2.St} {F H : Hp} : IterOk K (Itr lo n) (rngList lo n 1) env1 σ F H := by
  refine ⟨fun _ => True, YFn fun i => .int (lo + i), by rw [rngList_len]; exact walk_range, fun _ _ _ _ _ _ => trivial, fun i H x H' hi y => ⟨y.1, fun F2 m => ⟨_, rngList_get (by rw [rngList_len] at hi; exact hi), ?_⟩⟩⟩
  rw [y.2, Int.mul_one]
  rfl
theorem IterOk.rngC {K : Frag} {lo c : Int} {n : Nat} {env1 : Mini.Env} {σ : L2.St} {F H : Hp} : IterOk K (Itc lo c n) (rngList lo n c) env1 σ F H := by
  refine ⟨fun _ => True, YFn fun i => .int (lo + (i : Nat) * c), by rw [rngList_len]; exact walk_rangeC, fun _ _ _ _ _ _ => trivial, fun i H x H' hi y => ⟨y.1, fun F2 m => ⟨_, rngList_get (by rw [rngList_len] at hi; exact hi), ?_⟩⟩⟩
  rw [y.2]
  rfl
def tI (K : Frag) (G : List D) (Φ : Calls) (m : E) : TI := fun σ H R => ∃ env F r e1 xs env1 lk, RE K F H env σ ∧ evX G Φ m false env = some (r, e1) ∧ itR e1 r = some (xs, env1, lk) ∧
  ∀ J F' H', RE K F' H' e1 σ → Ext env σ F H e1 σ F' H' → RE K F' H' env1 σ → Ext e1 σ F' H' env1 σ F' H' → IterOk K J xs env1 σ F' H' → (∀ i, lk = some i → ∀ a, OwnS e1 σ i a → CellS e1 σ i a) → R J H'
theorem i_of {tg e : Expr} {m : E} (he : SE X G Φ e m) : PI X tg e (tI X.K G Φ m) := by
  refine PI.imp (PI.or (pi_list he) (PI.or (pi_tup he) (pi_str he))) fun σ H R ⟨env, F, r, e1, xs, env1, lk, hre, hev, hit, q⟩ => ?_
  have fixL : ∀ {F1 H1 : Hp} {a : Addr} {vs : List V} {e2 : Mini.Env}, SqL X.K F1 a vs → ∀ env2 σ2 F2 H2, RE X.K F2 H2 env2 σ2 → Ext e2 σ F1 H1 env2 σ2 F2 H2 → SqL X.K H2 a vs := fun s env2 σ2 F2 H2 re x => sqL_mono re.sub (sqL_mono x.mono s)
  have fixT : ∀ {F1 H1 : Hp} {a : Addr} {vs : List V} {e2 : Mini.Env}, SqT X.K F1 a vs → ∀ env2 σ2 F2 H2, RE X.K F2 H2 env2 σ2 → Ext e2 σ F1 H1 env2 σ2 F2 H2 → SqT X.K H2 a vs := fun s env2 σ2 F2 H2 re x => sqT_mono re.sub (sqT_mono x.mono s)
  have fixC : ∀ {F1 H1 : Hp} {a : Addr} {vs : List V} {e2 : Mini.Env}, H1 a = some (.lst vs) → (∀ i, ¬ CellS e2 σ i a) → ∀ env2 σ2 F2 H2, RE X.K F2 H2 env2 σ2 → Ext e2 σ F1 H1 env2 σ2 F2 H2 → SqL X.K H2 a vs := fun h n env2 σ2 F2 H2 re x => .of (x.keep _ _ h n)
  have nolk : ∀ {e2 : Mini.Env}, ∀ i, none = some i → ∀ a, OwnS e2 σ i a → CellS e2 σ i a := fun i z => nomatch z
  cases r with
  | val d =>
    simp only [itR] at hit
    split at hit <;> first | (cases hit; done) | skip
    · rename_i ds e
      cases e; cases hit
      refine .inr (.inl ⟨env, F, _, e1, hre, hev, fun v F1 H1 re1 x1 ⟨a, vs, ev, s, rr⟩ => ⟨a, ev, ⟨vs, sqT_mono re1.sub s⟩, q _ F1 H1 re1 x1 re1 .refl (.tup rr (fixT s)) nolk⟩⟩)
    · rename_i ds e
      cases e; cases hit
      refine .inl ⟨env, F, _, e1, hre, hev, fun v F1 H1 re1 x1 ⟨a, vs, ev, s, rr⟩ => ⟨a, ev, ⟨vs, sqL_mono re1.sub (.of s)⟩, q _ F1 H1 re1 x1 re1 .refl (.lst rr (fixL (.of s))) nolk⟩⟩
    · rename_i ds e
      cases e; cases hit
      refine .inl ⟨env, F, _, e1, hre, hev, fun v F1 H1 re1 x1 ⟨a, vs, ev, s, rr⟩ => ⟨a, ev, ⟨vs, sqL_mono re1.sub s⟩, q _ F1 H1 re1 x1 re1 .refl (.lst rr (fixL s)) nolk⟩⟩
    · rename_i s e
      cases e; cases hit
      exact .inr (.inr ⟨env, F, _, e1, hre, hev, fun v F1 H1 re1 x1 ev => ⟨_, ev, q _ F1 H1 re1 x1 re1 .refl .str nolk⟩⟩)
    · rename_i e; cases e
    · rename_i e; cases e
  | own ds =>
    simp only [itR] at hit
    cases hit
    exact .inl ⟨env, F, _, e1, hre, hev, fun v F1 H1 re1 x1 ⟨a, vs, ev, _, hF, hH, rr, no⟩ => ⟨a, ev, ⟨vs, .of hH⟩, q _ F1 H1 re1 x1 re1 .refl (.lst rr (fixC hH fun i z => no i z.own)) nolk⟩⟩
  | ref i =>
    simp only [itR] at hit
    split at hit <;> first | (cases hit; done) | skip
    · rename_i ds hg
      cases hit
      refine .inl ⟨env, F, _, e1, hre, hev, fun v F1 H1 re1 x1 ev => ?_⟩
      obtain ⟨a, vs, e, hF, hH, rr⟩ := re1.cell hg
      have ev : σ[i]? = some (some v) := ev
      rw [e] at ev; cases ev
      obtain ⟨re2, x2⟩ := lock_ok re1 .refl hg
      have hl : i < e1.length := get_lt (by rw [hg]; exact fun z => nomatch z)
      refine ⟨a, rfl, ⟨vs, .of hH⟩, q _ F1 H1 re1 x1 re2 x2 (.lst rr (fixC hH fun j z => ?_)) fun j ej b _ => ?_⟩
      · obtain ⟨⟨ys, c⟩, s⟩ := z
        rw [get_set] at c
        by_cases hij : i = j
        · rw [if_pos ⟨hij, hl⟩] at c; cases c
        · rw [if_neg (fun w => hij w.1)] at c
          exact hij (re1.dis i j a ⟨⟨xs, .inl hg⟩, e⟩ ⟨⟨ys, .inl c⟩, s⟩)
      · cases ej
        rename_i o
        exact ⟨⟨xs, hg⟩, o.2⟩
    · rename_i ds hg
      cases hit
      refine .inl ⟨env, F, _, e1, hre, hev, fun v F1 H1 re1 x1 ev => ?_⟩
      obtain ⟨a, vs, e, hF, hH, rr⟩ := re1.lock hg
      have ev : σ[i]? = some (some v) := ev
      rw [e] at ev; cases ev
      refine ⟨a, rfl, ⟨vs, .of hH⟩, q _ F1 H1 re1 x1 re1 .refl (.lst rr (fixC hH fun j z => ?_)) nolk⟩
      obtain ⟨⟨ys, c⟩, s⟩ := z
      have := re1.dis i j a ⟨⟨xs, .inr hg⟩, e⟩ ⟨⟨ys, .inl c⟩, s⟩
      subst this
      rw [hg] at c; cases c
    · rename_i ds hg
      cases hit
      refine .inr (.inl ⟨env, F, _, e1, hre, hev, fun v F1 H1 re1 x1 ev => ?_⟩)
      obtain ⟨x', e, a, vs, ex, s, rr⟩ := re1.val hg
      have ev : σ[i]? = some (some v) := ev
      rw [e] at ev; cases ev; cases ex
      exact ⟨a, rfl, ⟨vs, sqT_mono re1.sub s⟩, q _ F1 H1 re1 x1 re1 .refl (.tup rr (fixT s)) nolk⟩
    · rename_i ds hg
      cases hit
      refine .inl ⟨env, F, _, e1, hre, hev, fun v F1 H1 re1 x1 ev => ?_⟩
      obtain ⟨x', e, a, vs, ex, s, rr⟩ := re1.val hg
      have ev : σ[i]? = some (some v) := ev
      rw [e] at ev; cases ev; cases ex
      exact ⟨a, rfl, ⟨vs, sqL_mono re1.sub (.of s)⟩, q _ F1 H1 re1 x1 re1 .refl (.lst rr (fixL (.of s))) nolk⟩
    · rename_i ds hg
      cases hit
      refine .inl ⟨env, F, _, e1, hre, hev, fun v F1 H1 re1 x1 ev => ?_⟩
      obtain ⟨x', e, a, vs, ex, s, rr⟩ := re1.val hg
      have ev : σ[i]? = some (some v) := ev
      rw [e] at ev; cases ev; cases ex
      exact ⟨a, rfl, ⟨vs, sqL_mono re1.sub s⟩, q _ F1 H1 re1 x1 re1 .refl (.lst rr (fixL s)) nolk⟩
theorem rngN_eq {i j c : Int} (h : c ≠ 0) : Builtin.Range.rangeSize i j c = rngN i j c := by
  rw [rangeSize_toNat]
  unfold Builtin.Range.rangeSize rngN
  by_cases h0 : 0 < c
  · rw [if_pos h0, if_pos h0]; split <;> rfl
  · rw [if_neg h0, if_neg h0]
    by_cases h1 : j < i
    · rw [if_pos h1, if_pos h1]
    · rw [if_neg h1, if_neg h1]; rfl
theorem rng_small {i j c : Int} (hi : rngOk i = true) (hj : rngOk j = true) (h : c ≠ 0) (hc : c.natAbs < 1073741824) : Builtin.Range.small i j c = true := by
  obtain ⟨a1, a2⟩ := rngOk_ok hi
  obtain ⟨b1, b2⟩ := rngOk_ok hj
  have h1 := rangeSize_toNat_le i j c
  have h2 := rangeSize_toNat i j c
  unfold Builtin.Range.small Builtin.Range.rangeFitsLong
  simp only [Bool.and_eq_true, Bool.or_eq_true, decide_eq_true_eq]
  refine ⟨⟨⟨⟨by omega, by omega⟩, by omega⟩, by omega⟩, .inr ?_⟩
  split <;> (simp only [Bool.and_eq_true, decide_eq_true_eq]; omega)
theorem All2.length : ∀ {es : List Expr} {ms : Es}, All2 X G Φ es ms → es.length = Es.len ms
  | _, _, .nil => rfl
  | _, _, .cons _ _ _ r => by rw [List.length_cons, All2.length r]; rfl
theorem evRs_len : ∀ {ms : Es} {env : Mini.Env} {rs : List RV} {e1 : Mini.Env}, evRs G Φ ms env = some (rs, e1) → rs.length = Es.len ms
  | .nil, _, _, _, h => by simp only [evRs] at h; cases h; rfl
  | .cons m ms, _, _, _, h => by
    simp only [evRs, Option.bind_eq_some_iff, Option.map_eq_some_iff] at h
    obtain ⟨⟨r, e⟩, _, ⟨rs, e'⟩, h2, h3⟩ := h
    cases h3
    rw [List.length_cons, evRs_len h2]; rfl
theorem i_rng (O : Ok c G Φ k X sc) {tg : Expr} {y : Str} {es : List Expr} {ms : Es} {p pos : Pos} (hy : y = "range") (hgy : glB sc y = true) (h0 : 1 ≤ es.length) (h3 : es.length ≤ 3) (h : All2 X G Φ es ms) : PI X tg (.Call (.Name y p) es [] pos) (tI X.K G Φ (.rng ms)) := by
  subst hy
  have hm : ∀ y, y ∈ biNames → X.mg y = none := O.bi
  have ha := a_rs h
  have nolk : ∀ {σ : L2.St} {e2 : Mini.Env}, ∀ i, none = some i → ∀ a, OwnS e2 σ i a → CellS e2 σ i a := fun i z => nomatch z
  have open_ : ∀ {σ : L2.St} {H : Hp} {R : It → Hp → Prop}, tI X.K G Φ (.rng ms) σ H R → tRs X.K G Φ ms σ H (fun vs H1 => ∃ F1 ds xs, vs.length = es.length ∧ RdDs X.K F1 H1 vs ds ∧ rngD ds = some xs ∧ ∀ J, (∀ env1, IterOk X.K J xs env1 σ F1 H1) → R J H1) := by
    rintro σ H R ⟨env, F, r, e1, xs, env1, lk, hre, hev, hit, q⟩
    simp only [evX, fin_f, Option.bind_eq_some_iff, Option.map_eq_some_iff] at hev
    obtain ⟨⟨rs, e1⟩, h1, ds, h2, xs', h3, xs'', h4, h5⟩ := hev
    cases h5
    obtain ⟨rfl, hlim⟩ := lim_ok h4
    simp only [itR] at hit
    cases hit
    exact ⟨env, F, rs, _, hre, h1, fun vs F1 H1 re1 x1 q1 => ⟨F1, ds, _, by rw [RRs.length q1, evRs_len h1, h.length], rdds re1 q1 h2, h3, fun J hJ => q J F1 H1 re1 x1 re1 .refl (hJ _) nolk⟩⟩
  have len1 : ∀ {K : Frag} {F H : Hp} {vs : List V} {ds : List D}, RdDs K F H vs ds → vs.length = ds.length := by
    intro K F H vs
    induction vs with
    | nil => intro ds h; cases ds <;> first | rfl | exact h.elim
    | cons v vs ih => intro ds h; cases ds with
      | nil => exact h.elim
      | cons d ds => rw [List.length_cons, List.length_cons, ih h.2]
  match es, h, h0, h3 with
  | [a], h, _, _ =>
    have s1 : starEach [a] X.env = [(false, eval a X.env)] := by cases h with | cons pl he ht r => rw [star_pl pl]; rfl
    refine PI.imp (pi_range1 (O.gl hgy) (hm _ (by decide)) ha s1) fun σ H R w => ?_
    obtain ⟨env, F, rs, e1, hre, h1, q⟩ := open_ w
    refine ⟨env, F, rs, e1, hre, h1, fun vs F1 H1 re1 x1 q1 => ?_⟩
    obtain ⟨F2, ds, xs, hl, rd, hr, q2⟩ := q vs F1 H1 re1 x1 q1
    have hl2 := len1 rd
    match vs, ds, hl, hl2, rd, hr with
    | [v], [d], hl3, hl4, rd, hr =>
      cases d <;> first | (cases hr; done) | skip
      rename_i j
      simp only [rngD] at hr
      split at hr <;> cases hr
      rename_i hj
      obtain ⟨b1, b2⟩ := rngOk_ok hj
      exact ⟨j, by rw [show v = _ from rd.1], b1, b2, q2 _ fun _ => .rng⟩
  | [a, b], h, _, _ =>
    have s1 : starEach [a, b] X.env = [(false, eval a X.env), (false, eval b X.env)] ∧ starEach [b] X.env = [(false, eval b X.env)] := by
      cases h with | cons pl he ht r => cases r with | cons pl' he' ht' r => rw [star_pl pl, star_pl pl']; exact ⟨rfl, rfl⟩
    refine PI.imp (pi_range2 (O.gl hgy) (hm _ (by decide)) ha s1.1 s1.2) fun σ H R w => ?_
    obtain ⟨env, F, rs, e1, hre, h1, q⟩ := open_ w
    refine ⟨env, F, rs, e1, hre, h1, fun vs F1 H1 re1 x1 q1 => ?_⟩
    obtain ⟨F2, ds, xs, hl, rd, hr, q2⟩ := q vs F1 H1 re1 x1 q1
    have hl2 := len1 rd
    match vs, ds, hl, hl2, rd, hr with
    | [v, w], [d, d'], hl3, hl4, rd, hr =>
      cases d <;> first | (cases hr; done) | skip
      cases d' <;> first | (cases hr; done) | skip
      rename_i i j
      simp only [rngD] at hr
      split at hr <;> cases hr
      rename_i hj
      simp only [Bool.and_eq_true] at hj
      obtain ⟨b1, b2⟩ := rngOk_ok hj.1
      obtain ⟨b3, b4⟩ := rngOk_ok hj.2
      exact ⟨i, j, by rw [show v = _ from rd.1, show w = _ from rd.2.1], ⟨b1, b2, b3, b4⟩, q2 _ fun _ => .rng⟩
  | [a, b, d], h, _, _ =>
    have s1 : starEach [a, b, d] X.env = (false, eval a X.env) :: starEach [b, d] X.env := by cases h with | cons pl he ht r => exact star_pl pl
    have s2 : (backTo pos (starEach [b, d] X.env)).any (·.1) = false := by cases h with | cons pl he ht r => exact noStars r
    refine PI.imp (pi_range3 (O.gl hgy) (hm _ (by decide)) ha s1 s2) fun σ H R w => ?_
    obtain ⟨env, F, rs, e1, hre, h1, q⟩ := open_ w
    refine ⟨env, F, rs, e1, hre, h1, fun vs F1 H1 re1 x1 q1 => ?_⟩
    obtain ⟨F2, ds, xs, hl, rd, hr, q2⟩ := q vs F1 H1 re1 x1 q1
    have hl2 := len1 rd
    match vs, ds, hl, hl2, rd, hr with
    | [v, w, z], [d, d', d''], hl3, hl4, rd, hr =>
      cases d <;> first | (cases hr; done) | skip
      cases d' <;> first | (cases hr; done) | skip
      cases d'' <;> first | (cases hr; done) | skip
      rename_i i j c
      simp only [rngD] at hr
      split at hr <;> cases hr
      rename_i hj
      simp only [Bool.and_eq_true, decide_eq_true_eq] at hj
      exact ⟨i, j, c, _, by rw [show v = _ from rd.1, show w = _ from rd.2.1, show z = _ from rd.2.2.1], ⟨hj.1.2, hj.2, rng_small hj.1.1.1 hj.1.1.2 hj.1.2 hj.2, rngN_eq hj.1.2⟩, q2 _ fun _ => .rngC⟩
  | [], _, h0, _ => simp at h0
  | _ :: _ :: _ :: _ :: _, _, _, h3 => simp at h3
end
end MS

/-! Expressions: index, bit_length, the length of a range, pop at a place. -/
namespace MS
open PySem PySem.Spec PyProof.Rows L2 Mini
theorem indexD_at {y : D} : ∀ {xs : List D} {k : Nat}, indexD y xs = some k → (∃ z, xs[k]? = some z ∧ eqD z y = true) ∧ ∀ (m : Nat) (z : D), m < k → xs[m]? = some z → eqD z y = false
  | [], k, h => by cases h
  | x :: xs, k, h => by
    unfold indexD at h
    split at h
    · rename_i hx
      cases h
      exact ⟨⟨x, rfl, hx⟩, fun m z hm => absurd hm (Nat.not_lt_zero _)⟩
    · rename_i hx
      obtain ⟨j, hj, rfl⟩ := Option.map_eq_some_iff.mp h
      obtain ⟨⟨z, h1, h2⟩, h3⟩ := indexD_at hj
      refine ⟨⟨z, by simpa using h1, h2⟩, fun m w hm hw => ?_⟩
      cases m with
      | zero => simp at hw; subst hw; simpa using hx
      | succ m => exact h3 m w (by omega) (by simpa using hw)
def rIndM (K : Frag) : V → List V → Hp → VK → Prop := fun x xs H Q => ∃ F d e y n, Same F H ∧ RdD K F H x d ∧ xs = [y] ∧ RdD K F H y e ∧ mtp .index d [e] = some (.val (.int n)) ∧ Q (.int n) H
theorem toPys_get : ∀ {xs : List D} {m : Nat} {z : PyData}, (toPys xs)[m]? = some z → ∃ w, xs[m]? = some w ∧ z = toPy w
  | [], m, z, h => by simp [toPys] at h
  | x :: xs, m, z, h => by
    cases m with
    | zero => simp [toPys] at h; exact ⟨x, rfl, h.symm⟩
    | succ m => exact toPys_get (xs := xs) (by simpa [toPys] using h)
theorem toPys_len : ∀ xs : List D, (toPys xs).length = xs.length
  | [] => rfl
  | x :: xs => by rw [toPys, List.length_cons, List.length_cons, toPys_len xs]
theorem toPys_at : ∀ {xs : List D} {m : Nat} {w : D}, xs[m]? = some w → (toPys xs)[m]? = some (toPy w)
  | [], m, z, h => by simp at h
  | x :: xs, m, z, h => by
    cases m with
    | zero => simp at h; subst h; simp [toPys]
    | succ m => simpa [toPys] using toPys_at (xs := xs) (by simpa using h)
section
variable {X : Cx}
theorem mt_indM (hu : X.A.units + 70 < cLine) : MtR X "list.index" (rIndM X.K) := by
  intro pins s σ H x xs v us Q I rx rxs ⟨F, d, e, y, n, sF, hd, ex, he, hm, q⟩
  subst ex
  cases rxs with
  | cons ry rt =>
    rename_i uy ut
    cases rt
    simp only [mtp, Option.bind_eq_some_iff] at hm
    obtain ⟨ys, hl0, hm⟩ := hm
    split at hm <;> first | (cases hm; done) | skip
    rename_i hz
    obtain ⟨j, hj0, hjn⟩ := Option.map_eq_some_iff.mp hm
    cases hjn
    obtain ⟨⟨z, hz1, hz2⟩, hno⟩ := indexD_at hj0
    have rd : ∀ {d : D} {x : V} {v : Value}, RdD X.K F H x d → RelV x v → ∃ as, Reads s.heap v (toPy d) as := fun hd r => Dp.reads I _ _ _ (rep_Dp _ (hd.rep sF)) r
    obtain ⟨bs, r1⟩ := rd he ry
    have hroom := dok_room hz hu
    obtain ⟨a, vs, rfl, h1, h2⟩ := ls_of sF hd hl0
    have hl : Dp X.K H (V.ref a) (.list (toPys ys)) := .lst h1 (reps_Dp ys (Reps.mono sF ys h2))
    obtain rfl : v = .ref a := rx
    cases hl with
    | lst hs ha =>
      obtain ⟨its, rv, ⟨⟨cls, dd, data, sls⟩, n, ho, hc, hdn, hdt⟩, hlen⟩ := I.list hs
      simp only at hc hdt
      subst hc hdt
      obtain ⟨as, h4⟩ := Dp.readsAll I _ _ its ha rv
      have hmap : its.map (SeqAt.readOf s.heap) = toPys ys := SeqAt.readsAll_map_plain _ _ _ (toPys_plain ys) h4
      have hn : its.length = ys.length := by rw [← toPys_len, ← hmap, List.length_map]
      have hvl := rv.length
      have hsl := sizeLine_eq
      obtain ⟨hjd, _⟩ := List.getElem?_eq_some_iff.mp hz1
      have hjl : j < its.length := by omega
      have hj : j < its.toArray.size := by simpa using hjl
      have at_ : ∀ (m : Nat) (hm : m < its.toArray.size) (w : D), ys[m]? = some w → SeqAt.readOf s.heap its.toArray[m] = toPy w := by
        intro m hm w hw
        have hz' := toPys_at hw
        have hml : m < its.length := by simpa using hm
        rw [← hmap, List.getElem?_map, List.getElem?_eq_getElem hml] at hz'
        have e1 : SeqAt.readOf s.heap its[m] = toPy w := Option.some.inj (show some (SeqAt.readOf s.heap its[m]) = some (toPy w) from hz')
        simpa using e1
      refine call_meets PySem.F.slot_list_index ⟨_, ho, rfl⟩ PySem.F.entry_list_index (PySem.F.args_list_index_2 _ _)
        (SeqAt.list_indexAt a its.toArray n dd sls uy (fun u => PyData.eqv (SeqAt.readOf s.heap u) (toPy e)) j hj (by omega) ?_ ?_) ⟨ho, SeqAt.items_plain (vs := its.toArray) (show ReadsAll s.heap its.toArray.toList (toPys ys) as from h4) r1 (toPys_plain ys) (toPy_plain e) (by rw [toPy_depth, toPys_depth]; exact hroom), ?_⟩
      · show PyData.eqv (SeqAt.readOf s.heap its.toArray[j]) (toPy e) = true
        rw [at_ j hj z hz1, eqv_toPy]
        exact hz2
      · intro m hm hmj
        have hmd : m < ys.length := by omega
        have hz' : ys[m]? = some ys[m] := List.getElem?_eq_getElem hmd
        show PyData.eqv (SeqAt.readOf s.heap its.toArray[m]) (toPy e) = false
        rw [at_ m hm _ hz', eqv_toPy]
        exact hno m _ hmj hz'
      · exact ⟨.int (j : Nat), H, I.tok _, ⟨_, rfl⟩, q⟩
theorem bits_eq (i : Int) : Builtin.Int.intBits i = bitLen i.natAbs := by
  unfold Builtin.Int.intBits bitLen
  by_cases h : i = 0
  · subst h; rfl
  · rw [if_neg (by simpa using h), if_neg (by omega)]
/-- range(a, b, c) as an argument -/
def PRg3 (X : Cx) (e : Expr) (t : L2.St → Hp → (Int → Int → Int → Hp → Prop) → Prop) : Prop :=
  ∀ (pins : List (Addr × Obj)) (s : Shared) (σ : L2.St) (H : Hp) (Q : Int → Int → Int → Hp → Prop), Inv X pins σ H s → t σ H Q →
    wpAny (model X.prog X.w) X.A (eval e X.env) (fun x s' => ∃ r a b c t u v H', x = .ref r ∧ IsRange s'.heap r a b c t u v ∧ Inv X pins σ H' s' ∧ Q a b c H') X.xe s
theorem prg_3 {a b c : Expr} {ta : TA} {p pos : Pos} (hg : Gl X "range") (hm : X.mg "range" = none) (ha : PA X [a, b, c] ta)
    (hs : starEach [a, b, c] X.env = (false, eval a X.env) :: starEach [b, c] X.env) (hpl : (backTo pos (starEach [b, c] X.env)).any (·.1) = false) :
    PRg3 X (.Call (.Name "range" p) [a, b, c] [] pos) (fun σ H Q => ta σ H fun vs H1 => ∃ i j k : Int, vs = [.int i, .int j, .int k] ∧ k ≠ 0 ∧ k.natAbs < 1073741824 ∧ Q i j k H1) := by
  intro pins s σ H Q I h
  refine Call_ (ld_blt I hg hm boot_range (PyProof.Rows.callWith_type1 (thn (ha.run pos pins s σ H _ I h) fun us s1 ⟨vs, H1, I1, r1, q1⟩ => ?_) hs hpl))
  obtain ⟨i, j, k, e, c0, c1, q⟩ := q1
  subst e
  cases r1 with
  | cons r rr =>
    cases rr with
    | cons r' rr =>
      cases rr with
      | cons r'' rr =>
        cases rr
        obtain ⟨t, rfl⟩ := r
        obtain ⟨t', rfl⟩ := r'
        obtain ⟨t'', rfl⟩ := r''
        refine call_range_3 c0 ?_ (.inl (PyProof.noPylong_small c1))
        exact ⟨_, i, j, k, _, _, _, H1, rfl, IsRange.new .., I1.kept (t' := s1.toks) fun b o e => Heap.get?_push_of_some _ e, q⟩
theorem pe_lenRg {e : Expr} {te : L2.St → Hp → (Int → Int → Int → Hp → Prop) → Prop} {p pos : Pos} (hg : Gl X "len") (hm : X.mg "len" = none) (he : PRg3 X e te) (na : starEach [e] X.env = (false, eval e X.env) :: starEach [] X.env := by rfl) :
    PE X (.Call (.Name "len" p) [e] [] pos) (fun σ H Q => te σ H fun a b c H1 => ∃ n : Nat, Builtin.Range.rangeSize a b c = n ∧ (n : Int) < 2 ^ 63 ∧ Q (.int n) H1) := by
  refine ⟨fun pins s σ H Q I h => ?_⟩
  refine wpAny_Call_Name_kw (ld_blt I hg hm bt_len ?_ (by decide) (by decide))
  refine PyProof.Rows.callWith_builtin1 (args_cons (thn (he pins s σ H _ I h) fun x s1 ⟨r, a, b, c, t, u, v, H1, ex, hr, I1, n, hn, hs, q⟩ => args_nil ?_) na) na
  subst ex
  refine call_len_range hr hn hs ?_
  exact ⟨.int n, H1, (I1.tok _).tok _, ⟨_, rfl⟩, q⟩
end
section
variable {c : Cfg} {G : List D} {Φ : Calls} {k : Nat} {X : Cx} {sc : Scope}
theorem bas_ok {o : Expr} {n : Str} {v : PySem.Env} (h : basM o = true) : attributeBase o n v (eval o v) = eval o v := by
  cases o <;> first | (cases h; done) | rfl
theorem x_index (O : Ok c G Φ k X sc) {o e : Expr} {mo me : E} {ap pos : Pos} (hb : attributeBase o "index" X.env (eval o X.env) = eval o X.env) (hl : (ap.endLine == pos.line) = true) (pl : plX e = true) (ho : SE X G Φ o mo) (he : SE X G Φ e me) :
    SE X G Φ (.Call (.Attribute o "index" ap) [e] [] pos) (.mt .index mo (.cons me .nil)) := by
  refine PE.imp (pe_bm PySem.F.plainAttrs_list PySem.F.slot_list_index PySem.F.type_list_index (mt_indM O.units) ho (pa_cons he pa_nil (star_pl pl)) hb (by rw [star_pl pl]; rfl) hl (star_pl pl) rfl) fun σ H Q ⟨env, F, r, env', hre, hev, q⟩ => ?_
  rw [evX, fin_f] at hev
  simp only [Option.bind_eq_some_iff] at hev
  obtain ⟨⟨ra, e1⟩, h1, x0, h2, hev⟩ := hev
  dsimp only at hev h2
  split at hev <;> first | (cases hev; done) | skip
  rename_i hk
  simp only [evRs, Option.bind_eq_some_iff, Option.map_eq_some_iff] at hev
  obtain ⟨⟨rs, e2⟩, ⟨⟨r1, e3⟩, h3, ⟨rs', e4⟩, h3', h3''⟩, x, h4, ds, h5, r', h6, h7⟩ := hev
  cases h3'; cases h3''; cases h7
  simp only [pks, Option.bind_eq_some_iff, Option.map_eq_some_iff] at h5
  obtain ⟨d, h5, ds', h5', h5''⟩ := h5
  cases h5'; cases h5''
  refine ⟨env, F, ra, e1, hre, h1, fun v1 F1 H1 re1 x1 q1 => ⟨?_, e1, F1, r1, e3, re1, h3, fun v2 F2 H2 re2 x2 q2 => ?_⟩⟩
  · obtain ⟨xs, hxs⟩ := Option.isSome_iff_exists.mp (show (lstOf x0).isSome = true from hk)
    obtain ⟨a, vs, rfl, h8, _⟩ := ls_of re1.sub (pk_ok re1 q1 h2) hxs
    exact .inl ⟨rfl, vs, h8⟩
  · have : ∃ n, r = .val (.int n) := by
      simp only [mtp, Option.bind_eq_some_iff] at h6
      obtain ⟨ys, _, h6⟩ := h6
      split at h6
      · obtain ⟨j, _, rfl⟩ := Option.map_eq_some_iff.mp h6
        exact ⟨_, rfl⟩
      · cases h6
    obtain ⟨n, rfl⟩ := this
    exact ⟨F2, x, d, v2, n, re2.sub, pk_ok re2 (later q1 x2) h4, rfl, pk_ok re2 q2 h5, h6, q (.int n) F2 H2 re2 (x1.trans x2) rfl⟩
theorem x_bits (O : Ok c G Φ k X sc) {o : Expr} {mo : E} {ap pos : Pos} (hb : attributeBase o "bit_length" X.env (eval o X.env) = eval o X.env) (hl : (ap.endLine == pos.line) = true) (ho : SE X G Φ o mo) :
    SE X G Φ (.Call (.Attribute o "bit_length" ap) [] [] pos) (.mt .bitlen mo .nil) := by
  refine PE.imp (pe_bits ho hb hl) fun σ H Q ⟨env, F, r, env', hre, hev, q⟩ => ?_
  rw [evX, fin_f] at hev
  simp only [Option.bind_eq_some_iff] at hev
  obtain ⟨⟨ra, e1⟩, h1, x0, h2, hev⟩ := hev
  dsimp only at hev h2
  split at hev <;> first | (cases hev; done) | skip
  rename_i hk
  simp only [evRs, Option.bind_eq_some_iff, Option.map_eq_some_iff] at hev
  obtain ⟨⟨rs, e2⟩, h3, x, h4, ds, h5, r', h6, h7⟩ := hev
  cases h3; cases h7
  rw [h2] at h4; cases h4
  cases h5
  refine ⟨env, F, ra, _, hre, h1, fun v1 F1 H1 re1 x1 q1 => ?_⟩
  have rd := pk_ok re1 q1 h2
  cases x0 <;> first | (cases hk; done) | skip
  rename_i i
  cases h6
  refine ⟨i, rd, ?_⟩
  rw [bits_eq]
  exact q _ F1 H1 re1 x1 rfl
theorem RdDs_len {K : Frag} {F H : Hp} : ∀ {vs : List V} {ds : List D}, RdDs K F H vs ds → vs.length = ds.length
  | [], [], _ => rfl
  | _ :: _, _ :: _, h => by rw [List.length_cons, List.length_cons, RdDs_len h.2]
  | [], _ :: _, h => h.elim
  | _ :: _, [], h => h.elim
theorem x_len3 (O : Ok c G Φ k X sc) {x y : Str} {es : List Expr} {ms : Es} {p p' pos pos' : Pos} (hx : x = "len") (hg : glB sc x = true) (hy : y = "range") (hgy : glB sc y = true) (h3 : es.length = 3) (h : All2 X G Φ es ms) :
    SE X G Φ (.Call (.Name x p) [.Call (.Name y p') es [] pos'] [] pos) (.bi .len (.cons (.rng ms) .nil)) := by
  subst hx; subst hy
  have hm : ∀ y, y ∈ biNames → X.mg y = none := O.bi
  have ha := a_rs h
  match es, h, h3 with
  | [a, b, d], h, _ =>
    have s1 : starEach [a, b, d] X.env = (false, eval a X.env) :: starEach [b, d] X.env := by cases h with | cons pl he ht r => exact star_pl pl
    have s2 : (backTo pos' (starEach [b, d] X.env)).any (·.1) = false := by cases h with | cons pl he ht r => exact noStars r
    refine PE.imp (pe_lenRg (O.gl hg) (hm _ (by decide)) (prg_3 (O.gl hgy) (hm _ (by decide)) ha s1 s2) rfl) fun σ H Q ⟨env, F, r, env', hre, hev, q⟩ => ?_
    rw [evX, fin_f] at hev
    simp only [evRs, Option.bind_eq_some_iff, Option.map_eq_some_iff] at hev
    obtain ⟨⟨rs, e1⟩, ⟨⟨r1, e2⟩, h1, ⟨rs', e3⟩, h1', h1''⟩, ds, h2, r', h6, h7⟩ := hev
    cases h1'; cases h1''; cases h7
    rw [evX, fin_f] at h1
    simp only [Option.bind_eq_some_iff, Option.map_eq_some_iff] at h1
    obtain ⟨⟨rs0, e4⟩, h3, ds0, h4, xs, h5, xs', h8, h9⟩ := h1
    obtain ⟨rfl, hlim⟩ := lim_ok h8
    cases h9
    cases h2
    cases h6
    refine ⟨env, F, rs0, _, hre, h3, fun vs F1 H1 re1 x1 q1 => ?_⟩
    have rd := rdds re1 q1 h4
    have hl : vs.length = 3 := by rw [RRs.length q1, evRs_len h3]; exact h.length.symm
    have hl2 : vs.length = ds0.length := RdDs_len rd
    match vs, ds0, hl, hl2, rd, h5 with
    | [v, w, z], [d1, d2, d3], _, _, rd, h5 =>
      cases d1 <;> first | (cases h5; done) | skip
      cases d2 <;> first | (cases h5; done) | skip
      cases d3 <;> first | (cases h5; done) | skip
      rename_i i j k _
      simp only [rngD] at h5
      split at h5 <;> cases h5
      rename_i hj
      simp only [Bool.and_eq_true, decide_eq_true_eq] at hj
      refine ⟨i, j, k, by rw [show v = _ from rd.1, show w = _ from rd.2.1, show z = _ from rd.2.2.1], hj.1.2, hj.2, rngN i j k, rngN_eq hj.1.2, ?_, ?_⟩
      · rw [rngList_len, sizeLine_eq] at hlim
        omega
      · have := q (.int (rngList i (rngN i j k) k).length) F1 H1 re1 x1 rfl
        rwa [rngList_len] at this
end
end MS

/-! Comprehensions. -/
namespace MS
open PySem PySem.Spec PyProof.Rows L2 Mini
section
variable {K : Frag} {F H F1 H1 F0 H0 : Hp} {env env1 env0 : Mini.Env} {σ σ0 : L2.St}
theorem σwipe_get {j : Nat} : ∀ {vs : List Nat} {σ : L2.St}, (L2.wipe σ vs)[j]? = if j ∈ vs then (if j < σ.length then some none else none) else σ[j]?
  | [], σ => by simp [L2.wipe]
  | v :: vs, σ => by
    rw [L2.wipe, List.getElem?_set, L2.wipe_length, σwipe_get]
    by_cases h1 : v = j
    · subst h1; simp
    · have : ¬ j = v := fun e => h1 e.symm
      simp [h1, this]
theorem re_wipe (h : RE K F H env σ) (own : List Nat) : RE K F H (Mini.wipe env own) (L2.wipe σ own) ∧ ∀ i a, OwnS (Mini.wipe env own) (L2.wipe σ own) i a → OwnS env σ i a ∧ (CellS (Mini.wipe env own) (L2.wipe σ own) i a → CellS env σ i a) := by
  have ow : ∀ i a, OwnS (Mini.wipe env own) (L2.wipe σ own) i a → OwnS env σ i a ∧ (CellS (Mini.wipe env own) (L2.wipe σ own) i a → CellS env σ i a) := by
    rintro i a ⟨⟨xs, e⟩, s⟩
    rw [get_wipe] at e
    rw [σwipe_get] at s
    by_cases hi : i ∈ own
    · rw [if_pos hi] at e; rcases e with e | e <;> cases e
    · rw [if_neg hi] at e s
      refine ⟨⟨⟨xs, e⟩, s⟩, fun ⟨⟨ys, c⟩, _⟩ => ⟨⟨ys, ?_⟩, s⟩⟩
      rw [get_wipe, if_neg hi] at c
      exact c
  refine ⟨⟨h.sub, by rw [wipe_length, L2.wipe_length]; exact h.len, fun i => ?_, fun i j a o1 o2 => h.dis i j a (ow i a o1).1 (ow j a o2).1⟩, ow⟩
  rw [get_wipe, σwipe_get]
  by_cases hi : i ∈ own
  · rw [if_pos hi, if_pos hi]; trivial
  · rw [if_neg hi, if_neg hi]; exact h.slot i
theorem ext_wipe (h : RE K F H env σ) (x : Ext env0 σ0 F0 H0 env σ F H) (own : List Nat) : Ext env0 σ0 F0 H0 (Mini.wipe env own) (L2.wipe σ own) F H :=
  ⟨x.mono, x.keep, x.live, x.fnew, fun i a c => x.cnew i a (((re_wipe h own).2 i a c.own).2 c), fun i a o => x.onew i a ((re_wipe h own).2 i a o).1⟩
theorem restore_len (old : Mini.Env) : ∀ (own : List Nat) (env : Mini.Env), (restore old env own).length = env.length
  | [], _ => rfl
  | i :: is, env => by rw [restore, restore_len old is, set_len]
theorem get_restore {old : Mini.Env} {j : Nat} : ∀ {own : List Nat} {env : Mini.Env}, old.length = env.length → Mini.get (restore old env own) j = if j ∈ own then Mini.get old j else Mini.get env j
  | [], _, _ => by simp [restore]
  | i :: is, env, h => by
    rw [restore, get_restore (by rw [set_len]; exact h), get_set]
    by_cases h1 : j ∈ is
    · simp [h1]
    · by_cases h2 : i = j
      · subst h2
        by_cases h3 : i < env.length
        · simp [h1, h3]
        · have e1 : Mini.get old i = .no := by unfold Mini.get; rw [List.getD_eq_getElem?_getD, List.getElem?_eq_none (by omega)]; rfl
          have e2 : Mini.get env i = .no := by unfold Mini.get; rw [List.getD_eq_getElem?_getD, List.getElem?_eq_none (by omega)]; rfl
          simp [h1, h3, e1, e2]
      · have : ¬ j = i := fun e => h2 e.symm
        simp [h1, h2, this]
/-- behind a comprehension its own names are again what they were -/
theorem restore_ok {own : List Nat} {env2 : Mini.Env} {F2 H2 : Hp} (h1 : RE K F1 H1 env1 σ) (h2 : RE K F2 H2 (Mini.wipe env2 own) (L2.wipe σ own)) (x : Ext (Mini.wipe env1 own) (L2.wipe σ own) F1 H1 (Mini.wipe env2 own) (L2.wipe σ own) F2 H2) :
    RE K F2 H2 (restore env1 env2 own) σ ∧ Ext env1 σ F1 H1 (restore env1 env2 own) σ F2 H2 := by
  have l1 := h1.len
  have l2 := h2.len
  rw [wipe_length, L2.wipe_length] at l2
  have hl : env1.length = env2.length := l1.trans l2.symm
  have w1 := (re_wipe h1 own).2
  have inW : ∀ i a, i ∉ own → OwnS (restore env1 env2 own) σ i a → OwnS (Mini.wipe env2 own) (L2.wipe σ own) i a ∧ (CellS (restore env1 env2 own) σ i a → CellS (Mini.wipe env2 own) (L2.wipe σ own) i a) := by
    rintro i a hi ⟨⟨xs, e⟩, s⟩
    rw [get_restore hl, if_neg hi] at e
    refine ⟨⟨⟨xs, by rw [get_wipe, if_neg hi]; exact e⟩, by rw [σwipe_get, if_neg hi]; exact s⟩, fun ⟨⟨ys, c⟩, _⟩ => ⟨⟨ys, ?_⟩, by rw [σwipe_get, if_neg hi]; exact s⟩⟩
    rw [get_restore hl, if_neg hi] at c
    rw [get_wipe, if_neg hi]; exact c
  have inO : ∀ i a, i ∈ own → OwnS (restore env1 env2 own) σ i a → OwnS env1 σ i a ∧ (CellS (restore env1 env2 own) σ i a → CellS env1 σ i a) := by
    rintro i a hi ⟨⟨xs, e⟩, s⟩
    rw [get_restore hl, if_pos hi] at e
    refine ⟨⟨⟨xs, e⟩, s⟩, fun ⟨⟨ys, c⟩, _⟩ => ⟨⟨ys, ?_⟩, s⟩⟩
    rw [get_restore hl, if_pos hi] at c
    exact c
  -- an outer name's list of the block's own slots is untouched
  have kept : ∀ i a, i ∈ own → OwnS env1 σ i a → F2 a = none ∧ H2 a = H1 a := by
    intro i a hi o
    obtain ⟨hF, ws, hH⟩ := h1.own o
    have nc : ∀ j, ¬ CellS (Mini.wipe env1 own) (L2.wipe σ own) j a := fun j c => by
      have o' := (w1 j a c.own).1
      have := h1.dis i j a o o'
      subst this
      obtain ⟨⟨ys, c⟩, _⟩ := c
      rw [get_wipe, if_pos hi] at c
      cases c
    refine ⟨?_, (x.keep a _ hH nc).trans hH.symm⟩
    cases z : F2 a with
    | none => rfl
    | some u =>
      rcases x.fnew a u z with w | w | ⟨p, w⟩
      · rw [hF] at w; cases w
      · rw [hH] at w; cases w
      · exact absurd w (nc p)
  have toOne : ∀ i a, OwnS (restore env1 env2 own) σ i a → (OwnS env1 σ i a ∧ (CellS (restore env1 env2 own) σ i a → CellS env1 σ i a)) ∨ (H1 a = none ∧ i ∉ own) := by
    intro i a o
    by_cases hi : i ∈ own
    · exact .inl (inO i a hi o)
    · obtain ⟨o2, c2⟩ := inW i a hi o
      rcases x.onew i a o2 with w | w
      · by_cases hc : CellS (restore env1 env2 own) σ i a
        · rcases x.cnew i a (c2 hc) with z | z
          · exact .inl ⟨(w1 i a w).1, fun _ => (w1 i a w).2 z⟩
          · exact .inr ⟨z, hi⟩
        · exact .inl ⟨(w1 i a w).1, fun z => absurd z hc⟩
      · exact .inr ⟨w, hi⟩
  refine ⟨⟨h2.sub, by rw [restore_len]; exact hl.symm.trans l1, fun i => ?_, fun i j a o1 o2 => ?_⟩, x.mono, fun a o e n => x.keep a o e fun i c => n i ((w1 i a c.own).2 c), x.live, fun a o e => ?_, fun i a c => ?_, fun i a o => ?_⟩
  · rw [get_restore hl]
    by_cases hi : i ∈ own
    · rw [if_pos hi]
      have s := h1.slot i
      generalize hbb : Mini.get env1 i = bb at s
      cases bb with
      | no => trivial
      | val d => obtain ⟨y, e, r⟩ := s; exact ⟨y, e, Rep.mono x.mono d r⟩
      | cell ds =>
        obtain ⟨a, us, e, f, hh, rr⟩ := s
        obtain ⟨k1, k2⟩ := kept i a hi ⟨⟨ds, .inl hbb⟩, e⟩
        exact ⟨a, us, e, k1, by rw [k2]; exact hh, Reps.mono x.mono _ rr⟩
      | lock ds =>
        obtain ⟨a, us, e, f, hh, rr⟩ := s
        obtain ⟨k1, k2⟩ := kept i a hi ⟨⟨ds, .inr hbb⟩, e⟩
        exact ⟨a, us, e, k1, by rw [k2]; exact hh, Reps.mono x.mono _ rr⟩
    · rw [if_neg hi]
      have s := h2.slot i
      rw [get_wipe, σwipe_get, if_neg hi, if_neg hi] at s
      exact s
  · by_cases hi : i ∈ own
    · obtain ⟨p1, _⟩ := inO i a hi o1
      by_cases hj : j ∈ own
      · exact h1.dis i j a p1 (inO j a hj o2).1
      · rcases toOne j a o2 with w | w
        · exact h1.dis i j a p1 w.1
        · obtain ⟨_, ws, z⟩ := h1.own p1
          rw [w.1] at z; cases z
    · by_cases hj : j ∈ own
      · obtain ⟨p2, _⟩ := inO j a hj o2
        rcases toOne i a o1 with w | w
        · exact h1.dis i j a w.1 p2
        · obtain ⟨_, ws, z⟩ := h1.own p2
          rw [w.1] at z; cases z
      · exact h2.dis i j a (inW i a hi o1).1 (inW j a hj o2).1
  · rcases x.fnew a o e with w | w | ⟨p, w⟩
    · exact .inl w
    · exact .inr (.inl w)
    · exact .inr (.inr ⟨p, (w1 p a w.own).2 w⟩)
  · rcases toOne i a c.own with w | w
    · exact .inl (w.2 c)
    · exact .inr w.1
  · rcases toOne i a o with w | w
    · exact .inl w.1
    · exact .inr w.1
theorem restore_own {own : List Nat} {env2 : Mini.Env} (hl : env1.length = env2.length) {i : Nat} {a : Addr} (o : OwnS (restore env1 env2 own) σ i a) : OwnS env1 σ i a ∨ OwnS (Mini.wipe env2 own) (L2.wipe σ own) i a := by
  obtain ⟨⟨xs, e⟩, s⟩ := o
  rw [get_restore hl] at e
  by_cases hi : i ∈ own
  · rw [if_pos hi] at e; exact .inl ⟨⟨xs, e⟩, s⟩
  · rw [if_neg hi] at e
    exact .inr ⟨⟨xs, by rw [get_wipe, if_neg hi]; exact e⟩, by rw [σwipe_get, if_neg hi]; exact s⟩
theorem unlock_own {lk : Option Nat} {i : Nat} {a : Addr} (o : OwnS (unlock env lk) σ i a) : OwnS env σ i a := by
  cases lk with
  | none => exact o
  | some j =>
    unfold unlock at o
    dsimp only at o
    split at o
    · rename_i xs hg
      obtain ⟨⟨ys, e⟩, s⟩ := o
      rw [get_set] at e
      split at e
      · rename_i h
        obtain ⟨rfl, _⟩ := h
        exact ⟨⟨xs, .inr hg⟩, s⟩
      · exact ⟨⟨ys, e⟩, s⟩
    · exact o
/-- a list that no name holds and nothing frozen is, is changed -/
theorem RE.upd (h : RE K F H env σ) {a : Addr} {o : HO} (hF : F a = none) (no : ∀ i, ¬ OwnS env σ i a) : RE K F (L2.upd H a o) env σ := by
  refine h.to (.refl _) (fun b u e => ?_) fun i b ow => ?_
  · rw [upd_ne (ne_of_none e hF)]; exact h.sub _ _ e
  · have ne : b ≠ a := fun z => no i (by rw [← z]; exact ow)
    rw [upd_ne ne]
    exact ⟨(h.own ow).1, rfl⟩
theorem Ext.upd (x : Ext env0 σ0 F0 H0 env σ F H) {a : Addr} {o : HO} (h0 : H0 a = none) : Ext env0 σ0 F0 H0 env σ F (L2.upd H a o) :=
  ⟨x.mono, fun b u e n => by rw [upd_ne (ne_of_none e h0)]; exact x.keep b u e n, fun b u e => by rw [upd_ne (ne_of_none e h0)]; exact x.live b u e, x.fnew, x.cnew, x.onew⟩
end

/-- items one by one, each kept or not -/
def colL (st : D → Mini.Env → Option (Option D × Mini.Env)) : List D → Mini.Env → Option (List D × Mini.Env)
  | [], env => some ([], env)
  | x :: r, env => (st x env).bind fun (o, env) => (colL st r env).map fun (ds, env) => (o.toList ++ ds, env)
theorem colL_comp (f : D → Mini.Env → Option (D × Mini.Env)) : ∀ (xs : List D) (env : Mini.Env), compL f xs env = colL (fun x e => (f x e).map fun (d, e) => (some d, e)) xs env
  | [], _ => rfl
  | x :: r, env => by
    simp only [compL, colL]
    cases f x env with
    | none => rfl
    | some p =>
      simp only [Option.bind_some, Option.map_some, colL_comp f r]
      rfl
theorem colL_compIf (c : D → Mini.Env → Option (Bool × Mini.Env)) (f : Mini.Env → Option (D × Mini.Env)) : ∀ (xs : List D) (env : Mini.Env), compIfL c f xs env = colL (fun x e => (c x e).bind fun (k, e) => if k then (f e).map fun (d, e) => (some d, e) else some (none, e)) xs env
  | [], _ => rfl
  | x :: r, env => by
    simp only [compIfL, colL]
    cases c x env with
    | none => rfl
    | some p =>
      obtain ⟨k, e⟩ := p
      cases k with
      | true =>
        simp only [Option.bind_some, if_true]
        cases f e with
        | none => rfl
        | some q =>
          simp only [Option.bind_some, Option.map_some, colL_compIf c f r]
          rfl
      | false =>
        simp only [Option.bind_some, Bool.false_eq_true, if_false, colL_compIf c f r, Option.toList]
        cases colL _ r e <;> rfl
section
variable {c : Cfg} {G : List D} {Φ : Calls} {k : Nat} {X : Cx} {sc : Scope}
def stp (G : List D) (Φ : Calls) (own : List Nat) (t : T) (elt : E) (cnd : Option E) : D → Mini.Env → Option (Option D × Mini.Env) := fun x e => (bindT (Mini.wipe e own) t x).bind fun e => match cnd with
  | none => ((evX G Φ elt false e).bind fun (r, e) => fz e r).map fun (d, e) => (some d, e)
  | some c => (tst (evX G Φ c true e)).bind fun (k, e) => if k then ((evX G Φ elt false e).bind fun (r, e) => fz e r).map fun (d, e) => (some d, e) else some (none, e)
def ttO (K : Frag) (G : List D) (Φ : Calls) : Option E → TT
  | none => tYes
  | some c => tT K G Φ c
/-- within the loop of a comprehension: its list stands at A -/
structure CInv (K : Frag) (own : List Nat) (we0 : Mini.Env) (σw : L2.St) (F1 H1 : Hp) (A : Addr) (env : Mini.Env) (ds : List D) (F H : Hp) : Prop where
  re : RE K F H (Mini.wipe env own) σw
  ext : Ext we0 σw F1 H1 (Mini.wipe env own) σw F H
  fD : F A = none
  hD : ∃ acc, H A = some (.lst acc) ∧ Reps K F ds acc
  no : ∀ i, ¬ OwnS (Mini.wipe env own) σw i A
theorem c_turn {K : Frag} {own : List Nat} {t : T} {elt : E} {cnd : Option E} {we0 env env' : Mini.Env} {σ : L2.St} {F1 H1 F H : Hp} {A : Addr} {ds : List D} {d : D} {o : Option D} {v : V} {Nx : Hp → Prop} (ht : ∀ i ∈ tSl t, i ∈ own)
    (C : CInv K own we0 (L2.wipe σ own) F1 H1 A env ds F H) (h1 : H1 A = none) (r : Rep K F d v) (hs : stp G Φ own t elt cnd d env = some (o, env')) (hl : ds.length < sizeLine)
    (hN : ∀ F' H', CInv K own we0 (L2.wipe σ own) F1 H1 A env' (ds ++ o.toList) F' H' → Nx H') :
    gT K t v (L2.wipe σ own) H fun σ2 H2 => L2.wipe σ2 own = L2.wipe σ own ∧ ttO K G Φ cnd σ2 H2 fun b H3 =>
      if b = true then tX K G Φ elt σ2 H3 fun y H4 => ∃ acc, H4 A = some (.lst acc) ∧ acc.length < sizeLine ∧ Nx (upd H4 A (.lst (acc ++ [y]))) else Nx H3 := by
  obtain ⟨re, ext, fD, ⟨acc, hA, ra⟩, no⟩ := C
  simp only [stp, Option.bind_eq_some_iff] at hs
  obtain ⟨env2, hb, hs⟩ := hs
  refine ⟨_, F, d, env2, re, r, hb, fun σ2 re2 tr agree len => ?_⟩
  have x2 : Ext (Mini.wipe env own) (L2.wipe σ own) F H env2 σ2 F H := tr _ _ _ _ .refl
  have hw : L2.wipe σ2 own = L2.wipe σ own := by
    apply List.ext_getElem?
    intro i
    rw [σwipe_get, σwipe_get]
    rw [L2.wipe_length] at len
    by_cases hi : i ∈ own
    · rw [if_pos hi, if_pos hi, len]
    · rw [if_neg hi, if_neg hi, agree i fun z => hi (ht i z), σwipe_get, if_neg hi]
  refine ⟨hw, ?_⟩
  -- after any part
  have after : ∀ {e3 : Mini.Env} {F3 H3 : Hp}, RE K F3 H3 e3 σ2 → Ext env2 σ2 F H e3 σ2 F3 H3 → CInv K own we0 (L2.wipe σ own) F1 H1 A e3 ds F3 H3 ∧ H3 A = some (.lst acc) := by
    intro e3 F3 H3 re3 x3
    have x4 := x2.trans x3
    have nc : ∀ i, ¬ CellS (Mini.wipe env own) (L2.wipe σ own) i A := fun i c => no i c.own
    have hA3 := x4.keep A _ hA nc
    have fA : F3 A = none := by
      cases z : F3 A with
      | none => rfl
      | some u =>
        rcases x4.fnew A u z with w | w | ⟨p, w⟩
        · rw [fD] at w; cases w
        · rw [hA] at w; cases w
        · exact absurd w (nc p)
    have no3 : ∀ i, ¬ OwnS e3 σ2 i A := fun i z => by
      rcases x4.onew i A z with w | w
      · exact no i w
      · rw [hA] at w; cases w
    obtain ⟨rw3, ow3⟩ := re_wipe re3 own
    have ew := ext_wipe re3 (ext.trans x4) own
    rw [hw] at rw3 ow3 ew
    exact ⟨⟨rw3, ew, fA, ⟨acc, hA3, Reps.mono x4.mono _ ra⟩, fun i z => no3 i (ow3 i A z).1⟩, hA3⟩
  -- the element
  have elem : ∀ {e3 : Mini.Env} {F3 H3 : Hp} {d' : D}, RE K F3 H3 e3 σ2 → Ext env2 σ2 F H e3 σ2 F3 H3 → ((evX G Φ elt false e3).bind fun (r, e) => fz e r) = some (d', env') → o = some d' →
      tX K G Φ elt σ2 H3 fun y H4 => ∃ acc, H4 A = some (.lst acc) ∧ acc.length < sizeLine ∧ Nx (upd H4 A (.lst (acc ++ [y]))) := by
    intro e3 F3 H3 d' re3 x3 hev ho
    simp only [Option.bind_eq_some_iff] at hev
    obtain ⟨⟨r1, e4⟩, hev, hf⟩ := hev
    refine ⟨e3, F3, r1, e4, re3, hev, fun y F4 H4 re4 x4 q4 => ?_⟩
    obtain ⟨F5, re5, x5, q5⟩ := fz_ok re4 (x3.trans x4) (MS.back q4 x3) hf
    obtain ⟨C5, hA5⟩ := after re5 x5
    have hla : acc.length < sizeLine := by rw [← ra.length]; exact hl
    refine ⟨acc, hA5, hla, hN F5 _ ⟨C5.re.upd C5.fD C5.no, C5.ext.upd h1, C5.fD, ⟨acc ++ [y], upd_same, ?_⟩, C5.no⟩⟩
    obtain ⟨acc', e', r'⟩ := C5.hD
    rw [hA5] at e'; cases e'
    rw [ho]
    exact r'.app (.one q5)
  cases cnd with
  | none =>
    simp only [ttO, tYes, if_true]
    simp only [Option.map_eq_some_iff] at hs
    obtain ⟨⟨d', e'⟩, hs, he⟩ := hs
    cases he
    exact elem re2 .refl hs rfl
  | some cc =>
    simp only [Option.bind_eq_some_iff] at hs
    obtain ⟨⟨b, e3⟩, hc, hs⟩ := hs
    refine ⟨env2, F, b, e3, re2, hc, fun F3 H3 re3 x3 => ?_⟩
    cases b with
    | true =>
      simp only [if_true, Option.map_eq_some_iff] at hs ⊢
      obtain ⟨⟨d', e'⟩, hs, he⟩ := hs
      cases he
      exact elem re3 x3 hs rfl
    | false =>
      simp only [Bool.false_eq_true, if_false] at hs ⊢
      cases hs
      obtain ⟨C3, _⟩ := after re3 x3
      exact hN F3 H3 (by simpa using C3)
/-- the reading of a comprehension -/
theorem core_lc {own : List Nat} {t : T} {elt it : E} {cnd : Option E} (ht : ∀ i ∈ tSl t, i ∈ own) : ∀ σ H Q, (∃ env F r e1 xs env1 lk ds env2, RE X.K F H env σ ∧ evX G Φ it false env = some (r, e1) ∧ itR e1 r = some (xs, env1, lk) ∧ lim xs = some xs ∧ colL (stp G Φ own t elt cnd) xs env1 = some (ds, env2) ∧
      ∀ v F' H', RE X.K F' H' (unlock (restore env1 env2 own) lk) σ → Ext env σ F H (unlock (restore env1 env2 own) lk) σ F' H' → RR X.K H F' H' (unlock (restore env1 env2 own) lk) σ v (.own ds) → Q v H') →
    tLc (tI X.K G Φ it) (gT X.K t) (ttO X.K G Φ cnd) (tX X.K G Φ elt) own σ H Q := by
  rintro σ H Q ⟨env, F, r, e1, xs, env1, lk, ds, env2, hre, hev, hit, hlim, hcol, q⟩
  obtain ⟨_, hxl⟩ := lim_ok hlim
  refine ⟨env, F, r, e1, xs, env1, lk, hre, hev, hit, fun J F1 H1 re1 x1 re2 x2 ⟨Gd, Yd, wk, hG, hY⟩ hlk A hA => ?_⟩
  have fA : F1 A = none := fnone re1.sub hA
  have noA : ∀ i, ¬ OwnS env1 σ i A := fun i o => by
    obtain ⟨_, ws, z⟩ := re2.own o
    rw [hA] at z; cases z
  obtain ⟨rw2, ow2⟩ := re_wipe re2 own
  have ew2 : Ext env1 σ F1 H1 (Mini.wipe env1 own) (L2.wipe σ own) F1 H1 := ext_wipe re2 .refl own
  refine lc_it wk (fun i H => ∃ ei Fi di rest, CInv X.K own (Mini.wipe env1 own) (L2.wipe σ own) F1 H1 A ei di Fi H ∧ colL (stp G Φ own t elt cnd) (xs.drop i) ei = some (rest, env2) ∧ ds = di ++ rest ∧ di.length ≤ i) ?_ ?_ ?_ ?_
  · exact ⟨env1, F1, [], ds, ⟨rw2.newH _ hA, .newH _ hA, fA, ⟨[], upd_same, rfl⟩, fun i z => noA i (ow2 i A z).1⟩, hcol, rfl, Nat.le_refl _⟩
  · rintro i H hi ⟨ei, Fi, di, rest, C, _⟩
    exact hG _ _ _ _ C.re (ew2.trans C.ext)
  · rintro i x H H' hi ⟨ei, Fi, di, rest, C, hc, hd, hdl⟩ y
    obtain ⟨rfl, hy⟩ := hY i H x H' hi y
    obtain ⟨d, hd1, hd2⟩ := hy Fi C.ext.mono
    have hdrop : xs.drop i = d :: xs.drop (i + 1) := by
      rw [List.drop_eq_getElem_cons hi]
      rw [List.getElem?_eq_getElem hi] at hd1
      rw [Option.some.inj hd1]
    rw [hdrop, colL] at hc
    simp only [Option.bind_eq_some_iff, Option.map_eq_some_iff] at hc
    obtain ⟨⟨o, e'⟩, hc1, ⟨ds', e''⟩, hc2, hc3⟩ := hc
    cases hc3
    refine c_turn ht C hA hd2 hc1 (by omega) fun F' H'' C' => ⟨e', F', _, ds', C', hc2, by rw [hd, List.append_assoc], ?_⟩
    rw [List.length_append]
    cases o <;> simp <;> omega
  · rintro H ⟨ei, Fi, di, rest, C, hc, hd, _⟩
    rw [List.drop_length, colL] at hc
    cases hc
    rw [List.append_nil] at hd
    subst hd
    obtain ⟨re3, x3⟩ := restore_ok re2 C.re C.ext
    obtain ⟨re4, x4⟩ := unlock_ok re3 (x2.trans x3) hlk
    refine q _ Fi H re4 (x1.trans x4) ?_
    obtain ⟨acc, e, rr⟩ := C.hD
    refine ⟨A, acc, rfl, x1.free hA, C.fD, e, rr, fun i o => ?_⟩
    have hl : env1.length = env2.length := by
      have l1 := re2.len
      have l2 := C.re.len
      rw [wipe_length, L2.wipe_length] at l2
      exact l1.trans l2.symm
    rcases restore_own hl (unlock_own o) with w | w
    · exact noA i w
    · exact C.no i w
end
end MS

/-! Every expression. -/
namespace MS
open PySem PySem.Spec PyProof.Rows L2 Mini
theorem relS_local {sc : Scope} {x : Str} : ∀ {names : List (Str × NameKind)}, names.lookup x = some .local →
    (names.map fun (n, k) => if (k == .free && sc.kind == .function && sc.names.lookup n == some .cell) then (n, NameKind.cell) else (n, k)).lookup x = some .local
  | [], h => by simp at h
  | (n, k) :: r, h => by
    have ih := @relS_local sc x r
    rw [List.lookup_cons] at h
    show List.lookup x ((if (k == NameKind.free && sc.kind == .function && sc.names.lookup n == some .cell) = true then (n, NameKind.cell) else (n, k)) :: _) = _
    split
    · rename_i hc
      rw [List.lookup_cons]
      cases hb : x == n with
      | true =>
        rw [hb] at h
        have : k = .local := Option.some.inj h
        subst this
        simp at hc
      | false => rw [hb] at h; exact ih h
    · rw [List.lookup_cons]
      cases hb : x == n with
      | true => rw [hb] at h; exact h
      | false => rw [hb] at h; exact ih h
theorem relS_cell {sc : Scope} {x : Str} : ∀ {names : List (Str × NameKind)}, names.lookup x = some .cell →
    (names.map fun (n, k) => if (k == .free && sc.kind == .function && sc.names.lookup n == some .cell) then (n, NameKind.cell) else (n, k)).lookup x = some .cell
  | [], h => by simp at h
  | (n, k) :: r, h => by
    have ih := @relS_cell sc x r
    rw [List.lookup_cons] at h
    show List.lookup x ((if (k == NameKind.free && sc.kind == .function && sc.names.lookup n == some .cell) = true then (n, NameKind.cell) else (n, k)) :: _) = _
    split
    · rw [List.lookup_cons]
      cases hb : x == n with
      | true => rfl
      | false => rw [hb] at h; exact ih h
    · rw [List.lookup_cons]
      cases hb : x == n with
      | true => rw [hb] at h; exact h
      | false => rw [hb] at h; exact ih h
section
variable {c : Cfg} {G : List D} {Φ : Calls} {k : Nat} {X : Cx} {sc : Scope}
theorem Ok.blk (O : Ok c G Φ k X sc) (s : Shared) (H : Hp) (scope : Scope) (C : Addr) (cl : List (Str × Addr)) (fp : List Addr) : Ok c G Φ k (X.blk s H scope (compEnvC scope cl C X.env) fp) (relS scope sc) :=
  ⟨O.hN, O.nd, O.nm, O.calm, by show relabel scope X.env = _; have := O.scope; subst this; rfl, O.bi, O.gcd, O.room, O.fs, O.cs⟩
theorem Tg.blk (O : Ok c G Φ k X sc) (s : Shared) (H : Hp) (scope : Scope) (C : Addr) (cl : List (Str × Addr)) (fp : List Addr) : Tg (X.blk s H scope (compEnvC scope cl C X.env) fp) scope := by
  refine ⟨fun x hx => ?_⟩
  have e : (X.blk s H scope (compEnvC scope cl C X.env) fp).env.scope = relS scope sc := (O.blk s H scope C cl fp).scope
  rw [e]
  unfold locB at hx
  split at hx
  · rename_i h
    have := relS_local (sc := sc) h
    exact ⟨.inl this, .inr this⟩
  · rename_i h
    have := relS_cell (sc := sc) h
    exact ⟨.inr this, .inl (by show (scope.names.lookup x == some .cell) = true; rw [h]; rfl)⟩
  · cases hx
theorem ownP_snd (N : List Str) (own : List Nat) : (ownP N own).map (·.2) = own := by
  unfold ownP
  induction own with
  | nil => rfl
  | cons a l ih => simp only [List.map_cons, List.cons.injEq, true_and]; exact ih
def ifsOf : Option Expr → List Expr
  | none => []
  | some y => [y]
/-- a comprehension as the library reads it -/
theorem p_lc (O : Ok c G Φ k X sc) {own : List Nat} {t : T} {elt it : E} {cnd : Option E} {x tg iter : Expr} {y : Option Expr} {scope : Scope} {pos : Pos} (hblk : blkC c.N sc scope (ownP c.N own) = true) (htg : chkTg c.N scope t tg = true)
    (pi : plX iter = true) (hi : PI X tg iter (tI X.K G Φ it)) (he : ∀ (X' : Cx), Ok c G Φ k X' (relS scope sc) → X'.K = X.K → SE X' G Φ x elt)
    (hc : match cnd, y with | none, none => True | some cc, some yy => ∀ (X' : Cx), Ok c G Φ k X' (relS scope sc) → X'.K = X.K → ST X' G Φ yy cc | _, _ => False) :
    PE X (.ListComp x [⟨tg, iter, ifsOf y, 0⟩] scope pos) (tLc (tI X.K G Φ it) (gT X.K t) (ttO X.K G Φ cnd) (tX X.K G Φ elt) own) := by
  have := pe_lc (pos := pos) (elt := x) (ifs := ifsOf y) O.calm O.nodup hi (own := ownP c.N own) (scope := scope) (g := gT X.K t) (tt := ttO X.K G Φ cnd) (te := tX X.K G Φ elt) (blkOk_by (by rw [O.hN, O.scope]; exact hblk))
    (fun s H C cl fp => g_tg (O.blk s H scope C cl fp) (Tg.blk O s H scope C cl fp) htg)
    (fun s H C cl fp => by
      cases cnd with
      | none => cases y with
        | none => exact pts_nil
        | some _ => exact hc.elim
      | some cc => cases y with
        | none => exact hc.elim
        | some yy => exact pts_one (hc _ (O.blk s H scope C cl fp) rfl))
    (fun s H C cl fp => he _ (O.blk s H scope C cl fp) rfl) (noFold_pl pi)
  rw [ownP_snd] at this
  exact this
theorem lim_self {xs ys : List D} (h : lim xs = some ys) : lim xs = some xs := by
  obtain ⟨rfl, _⟩ := lim_ok h
  exact h
theorem imp_comp {own : List Nat} {t : T} {elt it : E} (ht : ∀ i ∈ tSl t, i ∈ own) : ∀ σ H Q, tX X.K G Φ (.comp own elt t it) σ H Q → tLc (tI X.K G Φ it) (gT X.K t) (ttO X.K G Φ none) (tX X.K G Φ elt) own σ H Q := by
  rintro σ H Q ⟨env, F, r, env', hre, hev, q⟩
  refine core_lc ht σ H Q ?_
  simp only [evX, fin_f, Option.bind_eq_some_iff, Option.map_eq_some_iff] at hev
  obtain ⟨⟨r1, e1⟩, h1, ⟨xs, env1, lk⟩, h2, xs', h3, ⟨ds, env2⟩, h4, h5⟩ := hev
  obtain ⟨rfl, _⟩ := lim_ok h3
  cases h5
  rw [colL_comp] at h4
  refine ⟨env, F, r1, e1, _, env1, lk, ds, env2, hre, h1, h2, h3, ?_, q⟩
  rw [← h4]
  congr 1
  funext x e
  unfold stp
  dsimp only
  cases bindT (Mini.wipe e own) t x with
  | none => rfl
  | some e2 => rfl
theorem imp_compIf {own : List Nat} {t : T} {elt it cc : E} (ht : ∀ i ∈ tSl t, i ∈ own) : ∀ σ H Q, tX X.K G Φ (.compIf own elt t it cc) σ H Q → tLc (tI X.K G Φ it) (gT X.K t) (ttO X.K G Φ (some cc)) (tX X.K G Φ elt) own σ H Q := by
  rintro σ H Q ⟨env, F, r, env', hre, hev, q⟩
  refine core_lc ht σ H Q ?_
  simp only [evX, fin_f, Option.bind_eq_some_iff, Option.map_eq_some_iff] at hev
  obtain ⟨⟨r1, e1⟩, h1, ⟨xs, env1, lk⟩, h2, xs', h3, ⟨ds, env2⟩, h4, h5⟩ := hev
  obtain ⟨rfl, _⟩ := lim_ok h3
  cases h5
  rw [colL_compIf] at h4
  refine ⟨env, F, r1, e1, _, env1, lk, ds, env2, hre, h1, h2, h3, ?_, q⟩
  rw [← h4]
  congr 1
  funext x e
  unfold stp
  dsimp only
  cases bindT (Mini.wipe e own) t x with
  | none => rfl
  | some e2 => rfl
end
/-! ### the theorem -/
def SXs (c : Cfg) (G : List D) (Φ : Calls) (k : Nat) (m : E) : Prop := ∀ (X : Cx) (sc : Scope) (e : Expr), Ok c G Φ k X sc → chkE c m sc e = true → SE X G Φ e m ∧ (okT m = true → ST X G Φ e m)
def SEs (c : Cfg) (G : List D) (Φ : Calls) (k : Nat) (ms : Es) : Prop := ∀ (X : Cx) (sc : Scope) (es : List Expr), Ok c G Φ k X sc → chkEs c ms sc es = true → All2 X G Φ es ms
/-- a range, taken apart -/
def SRs (c : Cfg) (G : List D) (Φ : Calls) (k : Nat) (m : E) : Prop := ∀ (X : Cx) (sc : Scope) (e : Expr), Ok c G Φ k X sc → chkR c m sc e = true → ∀ es', m = .rng es' →
  ∃ y xs p pos, e = .Call (.Name y p) xs [] pos ∧ y = "range" ∧ glB sc y = true ∧ 1 ≤ xs.length ∧ xs.length ≤ 3 ∧ All2 X G Φ xs es'
def x_nm (b : Bi) : Prop := (biN b).1 = "isinstance"
section
variable {c : Cfg} {G : List D} {Φ : Calls} {k : Nat}
theorem rng_pl {m : E} {sc : Scope} {e : Expr} (h : chkR c m sc e = true) : plX e = true := by
  cases m <;> first | (unfold chkR at h; cases h; done) | skip
  unfold chkR at h
  split at h <;> first | (cases h; done) | skip
  rename_i hr
  unfold rngA at hr
  split at hr <;> first | (cases hr; done) | skip
  rfl
theorem st_plain {X : Cx} {e : Expr} {m : E} (he : ∀ whole, isTrue e X.env whole = (do let v ← whole; standAt e.pos; holding [v] (truthy v))) (hm : ∀ env, evX G Φ m true env = fin true (evX G Φ m false env)) (h : SE X G Φ e m) : SE X G Φ e m ∧ (okT m = true → ST X G Φ e m) := ⟨h, fun _ => st_of he hm h⟩
theorem str_eta (x : Str) : (⟨x.cps.toList.toArray⟩ : Str) = x := by cases x; simp
mutual
theorem sX : ∀ m : E, SXs c G Φ k m
  | .non, X, sc, e, O, h => by
    unfold chkE at h; split at h <;> first | (cases h; done) | skip
    exact st_plain (fun _ => rfl) (fun _ => rfl) (x_const (d := .non) pe_non (fun _ => rfl) fun _ => rfl)
  | .bl b, X, sc, e, O, h => by
    unfold chkE at h; split at h <;> first | (cases h; done) | skip
    have := eq_of_beq h; subst this
    exact st_plain (fun _ => rfl) (fun _ => rfl) (x_const (d := .bl b) pe_bl (fun _ => rfl) fun _ => rfl)
  | .int i, X, sc, e, O, h => by
    unfold chkE at h; split at h <;> first | (cases h; done) | skip
    have := eq_of_beq h; subst this
    exact st_plain (fun _ => rfl) (fun _ => rfl) (x_const (d := .int i) pe_int (fun _ => rfl) fun _ => rfl)
  | .str s, X, sc, e, O, h => by
    unfold chkE at h; split at h <;> first | (cases h; done) | skip
    have := eq_of_beq h; subst this
    exact st_plain (fun _ => rfl) (fun _ => rfl) (x_const (d := .str _) pe_str (fun _ => by show V.str _ = V.str _; rw [str_eta]) fun _ => rfl)
  | .var i, X, sc, e, O, h => by
    unfold chkE at h; split at h <;> first | (cases h; done) | skip
    rw [Bool.and_eq_true] at h
    exact st_plain (fun _ => rfl) (fun _ => rfl) (x_var O h.1 h.2)
  | .gl i, X, sc, e, O, h => by
    unfold chkE at h; split at h <;> first | (cases h; done) | skip
    rw [Bool.and_eq_true] at h
    exact st_plain (fun _ => rfl) (fun _ => rfl) (x_gl O h.1 h.2)
  | .tup es, X, sc, e, O, h => by
    unfold chkE at h; split at h <;> first | (cases h; done) | skip
    exact st_plain (fun _ => rfl) (fun _ => rfl) (x_tup (sEs es X sc _ O h))
  | .lst es, X, sc, e, O, h => by
    unfold chkE at h; split at h <;> first | (cases h; done) | skip
    exact st_plain (fun _ => rfl) (fun _ => rfl) (x_lst (sEs es X sc _ O h))
  | .bin op a b, X, sc, e, O, h => by
    unfold chkE at h; split at h <;> first | (cases h; done) | skip
    simp only [Bool.and_eq_true] at h
    exact st_plain (fun _ => rfl) (fun _ => rfl) (x_bin h.1.1 (sX a X sc _ O h.1.2).1 (sX b X sc _ O h.2).1)
  | .neg a, X, sc, e, O, h => by
    unfold chkE at h; split at h <;> first | (cases h; done) | skip
    exact st_plain (fun _ => rfl) (fun _ => rfl) (x_neg (sX a X sc _ O h).1)
  | .not a, X, sc, e, O, h => by
    unfold chkE at h; split at h <;> first | (cases h; done) | skip
    obtain ⟨s, t⟩ := sX a X sc _ O h
    exact ⟨x_not s, fun o => t_not (t (by unfold okT at o; exact o))⟩
  | .cmp op a b, X, sc, e, O, h => by
    unfold chkE at h; split at h <;> first | (cases h; done) | skip
    simp only [Bool.and_eq_true] at h
    have sa := (sX a X sc _ O h.1.2).1
    have sb := (sX b X sc _ O h.2).1
    exact ⟨x_cmp O h.1.1 (chk_pl h.2) sa sb, fun _ => t_cmp O h.1.1 (chk_pl h.2) sa sb⟩
  | .chain op op' a b d, X, sc, e, O, h => by
    unfold chkE at h; split at h <;> first | (cases h; done) | skip
    simp only [Bool.and_eq_true] at h
    have sa := (sX a X sc _ O h.1.1.2).1
    have sb := (sX b X sc _ O h.1.2).1
    have sd := (sX d X sc _ O h.2).1
    exact ⟨x_chain O h.1.1.1.1 h.1.1.1.2 (chk_pl h.1.2) (chk_pl h.2) sa sb sd, fun _ => t_chain O h.1.1.1.1 h.1.1.1.2 (chk_pl h.1.2) (chk_pl h.2) sa sb sd⟩
  | .isN a y, X, sc, e, O, h => by
    unfold chkE at h; split at h <;> first | (cases h; done) | skip
    · simp only [Bool.and_eq_true] at h
      have sa := (sX a X sc _ O h.2).1
      have := h.1; subst this
      exact ⟨x_isN sa, fun _ => t_isN sa⟩
    · simp only [Bool.and_eq_true, Bool.not_eq_true'] at h
      have sa := (sX a X sc _ O h.2).1
      have := h.1; subst this
      exact ⟨x_notN sa, fun _ => t_notN sa⟩
  | .isB a b y, X, sc, e, O, h => by
    unfold chkE at h; split at h <;> first | (cases h; done) | skip
    · simp only [Bool.and_eq_true] at h
      have sa := (sX a X sc _ O h.2).1
      have := h.1.1; subst this
      have := eq_of_beq h.1.2; subst this
      exact ⟨x_isB rfl sa, fun _ => t_isB rfl sa⟩
    · simp only [Bool.and_eq_true, Bool.not_eq_true'] at h
      have sa := (sX a X sc _ O h.2).1
      have := h.1.1; subst this
      have := eq_of_beq h.1.2; subst this
      exact ⟨x_isB rfl sa, fun _ => t_isB rfl sa⟩
  | .and es, X, sc, e, O, h => by
    unfold chkE at h; split at h <;> first | (cases h; done) | skip
    rename_i xs _
    simp only [Bool.and_eq_true, Bool.not_eq_true', List.isEmpty_eq_false_iff] at h
    have s := sEs es X sc _ O h.2
    exact ⟨x_and s h.1, fun o => t_and s (by unfold okT at o; exact o) h.1⟩
  | .or es, X, sc, e, O, h => by
    unfold chkE at h; split at h <;> first | (cases h; done) | skip
    simp only [Bool.and_eq_true, Bool.not_eq_true', List.isEmpty_eq_false_iff] at h
    have s := sEs es X sc _ O h.2
    exact ⟨x_or s h.1, fun o => t_or s (by unfold okT at o; exact o) h.1⟩
  | .ite d a b, X, sc, e, O, h => by
    unfold chkE at h; split at h <;> first | (cases h; done) | skip
    simp only [Bool.and_eq_true] at h
    exact ⟨x_ite ((sX d X sc _ O h.1.1.2).2 h.1.1.1) (sX a X sc _ O h.1.2).1 (sX b X sc _ O h.2).1, fun o => by cases o⟩
  | .idx a i, X, sc, e, O, h => by
    unfold chkE at h; split at h <;> first | (cases h; done) | skip
    simp only [Bool.and_eq_true] at h
    exact st_plain (fun _ => rfl) (fun _ => rfl) (x_idx (chk_pl h.2) (sX a X sc _ O h.1).1 (sX i X sc _ O h.2).1)
  | .slT a hi, X, sc, e, O, h => by
    unfold chkE at h; split at h <;> first | (cases h; done) | skip
    simp only [Bool.and_eq_true] at h
    exact st_plain (fun _ => rfl) (fun _ => rfl) (x_slT (sX a X sc _ O h.1).1 (sX hi X sc _ O h.2).1)
  | .slF a lo, X, sc, e, O, h => by
    unfold chkE at h; split at h <;> first | (cases h; done) | skip
    simp only [Bool.and_eq_true] at h
    exact st_plain (fun _ => rfl) (fun _ => rfl) (x_slF (sX a X sc _ O h.1).1 (sX lo X sc _ O h.2).1)
  | .slB a lo hi, X, sc, e, O, h => by
    unfold chkE at h; split at h <;> first | (cases h; done) | skip
    simp only [Bool.and_eq_true] at h
    exact st_plain (fun _ => rfl) (fun _ => rfl) (x_slB (sX a X sc _ O h.1.1).1 (sX lo X sc _ O h.1.2).1 (sX hi X sc _ O h.2).1)
  | .rev a, X, sc, e, O, h => by
    unfold chkE at h; split at h <;> first | (cases h; done) | skip
    exact st_plain (fun _ => rfl) (fun _ => rfl) (x_rev (sX a X sc _ O h).1)
  | .call f es, X, sc, e, O, h => by
    unfold chkE at h; split at h <;> first | (cases h; done) | skip
    simp only [Bool.and_eq_true, Bool.not_eq_true', List.isEmpty_eq_false_iff] at h
    exact st_plain (fun _ => rfl) (fun _ => rfl) (x_call O h.1.1.1 h.1.1.2 h.1.2 (sEs es X sc _ O h.2))
  | .bi b es, X, sc, e, O, h => by
    unfold chkE at h; split at h <;> first | (cases h; done) | skip
    simp only [Bool.and_eq_true, decide_eq_true_eq, Bool.or_eq_true] at h
    obtain ⟨⟨h1, h2⟩, h3⟩ := h
    refine st_plain (fun _ => rfl) (fun _ => rfl) ?_
    rcases h3 with (⟨⟨h3, h4⟩, h5⟩ | ⟨h3, h4⟩) | ⟨h3, h4⟩
    · split at h5
      · rename_i hn
        simp only [Bool.and_eq_true, Bool.not_eq_true', List.isEmpty_eq_false_iff] at h5
        exact x_bi O h2 h1 (by cases b <;> first | rfl | cases hn) h4 h5.1 (sEs es X sc _ O h5.2)
      · rename_i ty hn
        split at h5 <;> first | (cases h5; done) | skip
        simp only [Bool.and_eq_true, decide_eq_true_eq] at h5
        obtain ⟨⟨h6, h7⟩, h8⟩ := h5
        have hb : isiB b = true := by cases b <;> first | rfl | cases hn
        have hi : x_nm b := by cases b <;> first | rfl | cases hn
        have s := sEs es X sc _ O h8
        cases s with
        | cons pl he ht r =>
          cases r
          exact x_isi O h2 h7 (h1.trans hi) (by rw [h6, hn]) hb pl he
    · split at h4 <;> first | (cases h4; done) | skip
      rename_i r
      cases es with
      | nil => unfold chkRs at h4; cases h4
      | cons m es =>
        unfold chkRs at h4
        simp only [Bool.and_eq_true] at h4
        obtain ⟨⟨h4, h5⟩, h6⟩ := h4
        split at h4 <;> first | (cases h4; done) | skip
        cases m <;> first | (cases h5; done) | skip
        rename_i es
        unfold chkR at h6
        split at h6 <;> first | (cases h6; done) | skip
        rename_i xs hr
        have s := sRs (.rng es) X sc r O (by unfold chkR; rw [hr]; exact h6)
        obtain ⟨y, xs', p, pos, rfl, hy, hgy, h0, h3', s⟩ := s es rfl
        exact x_brng O h3 (by simpa [few] using h5) h1 h2 hy hgy (by rw [← List.length_pos_iff]; exact h0) s
    · subst h3
      split at h4 <;> first | (cases h4; done) | skip
      rename_i r
      cases es with
      | nil => unfold chkR3 at h4; cases h4
      | cons m es =>
        unfold chkR3 at h4
        simp only [Bool.and_eq_true] at h4
        obtain ⟨⟨h4, h5⟩, h6⟩ := h4
        split at h4 <;> first | (cases h4; done) | skip
        cases m <;> first | (cases h5; done) | skip
        rename_i es
        have h5 : Es.len es = 3 := by simpa [many] using h5
        unfold chkR at h6
        split at h6 <;> first | (cases h6; done) | skip
        rename_i xs hr
        have s := sRs (.rng es) X sc r O (by unfold chkR; rw [hr]; exact h6)
        obtain ⟨y, xs', p, pos, rfl, hy, hgy, h0, h3', s⟩ := s es rfl
        exact x_len3 O h1 h2 hy hgy (by rw [s.length]; exact h5) s
  | .mt k a es, X, sc, e, O, h => by
    refine st_plain (fun _ => by unfold chkE at h; (split at h <;> split at h) <;> first | (cases h; done) | rfl) (fun _ => rfl) ?_
    unfold chkE at h
    split at h
    · split at h <;> first | (cases h; done) | skip
      simp only [Bool.and_eq_true, decide_eq_true_eq] at h
      obtain ⟨⟨⟨⟨rfl, h2⟩, h3⟩, h4⟩, h5⟩ := h
      have s := sEs es X sc _ O h5
      cases s with
      | cons pl he ht r =>
        cases r
        exact x_index O (bas_ok h3) h2 pl (sX a X sc _ O h4).1 he
    · split at h <;> first | (cases h; done) | skip
      simp only [Bool.and_eq_true, decide_eq_true_eq] at h
      obtain ⟨⟨⟨⟨rfl, h2⟩, h3⟩, h4⟩, h5⟩ := h
      have s := sEs es X sc _ O h5
      cases s
      exact x_bits O (bas_ok h3) h2 (sX a X sc _ O h4).1
  | .pop i, X, sc, e, O, h => by
    unfold chkE at h; split at h <;> first | (cases h; done) | skip
    simp only [Bool.and_eq_true, decide_eq_true_eq] at h
    obtain ⟨⟨⟨h1, h2⟩, rfl⟩, h4⟩ := h
    exact st_plain (fun _ => rfl) (fun _ => rfl) (x_pop O h1 h2 h4)
  | .popAt i a, X, sc, e, O, h => by
    unfold chkE at h; split at h <;> first | (cases h; done) | skip
    simp only [Bool.and_eq_true, decide_eq_true_eq] at h
    obtain ⟨⟨⟨⟨h1, h2⟩, rfl⟩, h4⟩, h6⟩ := h
    exact st_plain (fun _ => rfl) (fun _ => rfl) (x_popAt O h1 h2 h4 (chk_pl h6) (sX a X sc _ O h6).1)
  | .rng _, X, sc, e, O, h => by unfold chkE at h; cases h
  | .comp own elt t it, X, sc, e, O, h => by
    unfold chkE at h; split at h <;> first | (cases h; done) | skip
    simp only [Bool.and_eq_true, Bool.or_eq_true] at h
    obtain ⟨⟨⟨⟨h1, h2⟩, h3⟩, h4⟩, h5⟩ := h
    have hs : ∀ i ∈ tSl t, i ∈ own := fun i hi => by simpa using List.all_eq_true.mp h3 i hi
    refine st_plain (fun _ => rfl) (fun _ => rfl) (PE.imp (p_lc (y := none) (cnd := none) O h1 h2 ?_ ?_ (fun X' O' _ => (sX elt X' _ _ O' h5).1) trivial) (imp_comp hs))
    · rcases h4 with h4 | h4
      · exact chk_pl h4
      · exact rng_pl h4
    · rcases h4 with h4 | h4
      · exact i_of (sX it X sc _ O h4).1
      · cases it <;> first | (unfold chkR at h4; cases h4; done) | skip
        rename_i es
        obtain ⟨y, xs', p, pos, rfl, hy, hgy, h0, h3', s⟩ := sRs (.rng es) X sc _ O h4 es rfl
        exact i_rng O hy hgy h0 h3' s
  | .compIf own elt t it d, X, sc, e, O, h => by
    unfold chkE at h; split at h <;> first | (cases h; done) | skip
    simp only [Bool.and_eq_true, Bool.or_eq_true] at h
    obtain ⟨⟨⟨⟨⟨⟨h1, h2⟩, h3⟩, h4⟩, h5⟩, h6⟩, h7⟩ := h
    have hs : ∀ i ∈ tSl t, i ∈ own := fun i hi => by simpa using List.all_eq_true.mp h3 i hi
    refine st_plain (fun _ => rfl) (fun _ => rfl) (PE.imp (p_lc (y := some _) (cnd := some d) O h1 h2 ?_ ?_ (fun X' O' _ => (sX elt X' _ _ O' h5).1) (fun X' O' _ => (sX d X' _ _ O' h7).2 h6)) (imp_compIf hs))
    · rcases h4 with h4 | h4
      · exact chk_pl h4
      · exact rng_pl h4
    · rcases h4 with h4 | h4
      · exact i_of (sX it X sc _ O h4).1
      · cases it <;> first | (unfold chkR at h4; cases h4; done) | skip
        rename_i es
        obtain ⟨y, xs', p, pos, rfl, hy, hgy, h0, h3', s⟩ := sRs (.rng es) X sc _ O h4 es rfl
        exact i_rng O hy hgy h0 h3' s
theorem sEs : ∀ ms : Es, SEs c G Φ k ms
  | .nil, X, sc, es, O, h => by
    unfold chkEs at h; split at h <;> first | (cases h; done) | skip
    exact .nil
  | .cons m ms, X, sc, es, O, h => by
    unfold chkEs at h; split at h <;> first | (cases h; done) | skip
    simp only [Bool.and_eq_true] at h
    obtain ⟨s, t⟩ := sX m X sc _ O h.1
    exact .cons (chk_pl h.1) s t (sEs ms X sc _ O h.2)
theorem sRs : ∀ m : E, SRs c G Φ k m
  | .rng es, X, sc, e, O, h => by
    intro es' he
    cases he
    unfold chkR at h
    split at h <;> first | (cases h; done) | skip
    rename_i xs hr
    have s := sEs es X sc xs O h
    unfold rngA at hr
    split at hr <;> first | (cases hr; done) | skip
    split at hr <;> cases hr
    rename_i hq
    simp only [Bool.and_eq_true, decide_eq_true_eq] at hq
    exact ⟨_, _, _, _, rfl, hq.1.1.1, hq.1.1.2, hq.1.2, hq.2, s⟩
  | .non, _, _, _, _, _ => fun _ z => by cases z
  | .bl _, _, _, _, _, _ => fun _ z => by cases z
  | .int _, _, _, _, _, _ => fun _ z => by cases z
  | .str _, _, _, _, _, _ => fun _ z => by cases z
  | .var _, _, _, _, _, _ => fun _ z => by cases z
  | .gl _, _, _, _, _, _ => fun _ z => by cases z
  | .tup _, _, _, _, _, _ => fun _ z => by cases z
  | .lst _, _, _, _, _, _ => fun _ z => by cases z
  | .bin _ _ _, _, _, _, _, _ => fun _ z => by cases z
  | .neg _, _, _, _, _, _ => fun _ z => by cases z
  | .not _, _, _, _, _, _ => fun _ z => by cases z
  | .cmp _ _ _, _, _, _, _, _ => fun _ z => by cases z
  | .chain _ _ _ _ _, _, _, _, _, _ => fun _ z => by cases z
  | .isN _ _, _, _, _, _, _ => fun _ z => by cases z
  | .isB _ _ _, _, _, _, _, _ => fun _ z => by cases z
  | .and _, _, _, _, _, _ => fun _ z => by cases z
  | .or _, _, _, _, _, _ => fun _ z => by cases z
  | .ite _ _ _, _, _, _, _, _ => fun _ z => by cases z
  | .idx _ _, _, _, _, _, _ => fun _ z => by cases z
  | .slT _ _, _, _, _, _, _ => fun _ z => by cases z
  | .slF _ _, _, _, _, _, _ => fun _ z => by cases z
  | .slB _ _ _, _, _, _, _, _ => fun _ z => by cases z
  | .rev _, _, _, _, _, _ => fun _ z => by cases z
  | .call _ _, _, _, _, _, _ => fun _ z => by cases z
  | .bi _ _, _, _, _, _, _ => fun _ z => by cases z
  | .mt _ _ _, _, _, _, _, _ => fun _ z => by cases z
  | .pop _, _, _, _, _, _ => fun _ z => by cases z
  | .popAt _ _, _, _, _, _, _ => fun _ z => by cases z
  | .comp _ _ _ _, _, _, _, _, _ => fun _ z => by cases z
  | .compIf _ _ _ _ _, _, _, _, _, _ => fun _ z => by cases z
end
end
end MS

/-! Statements: the check, and the rules one by one. -/
namespace MS
open PySem PySem.Spec PyProof.Rows L2 Mini
theorem _root_.L2.PS.imp {X : Cx} {e : Stmt} {t t' : TS} (h : PS X e t) (q : ∀ Dn σ H, t' Dn σ H → t Dn σ H) : PS X e t' := ⟨fun pins s σ H Dn I w => h.run pins s σ H Dn I (q Dn σ H w)⟩
theorem _root_.L2.PSs.imp {X : Cx} {e : List Stmt} {t t' : TS} (h : PSs X e t) (q : ∀ Dn σ H, t' Dn σ H → t Dn σ H) : PSs X e t' := ⟨fun pins s σ H Dn I w => h.run pins s σ H Dn I (q Dn σ H w)⟩

/-! ### the check -/
def isLC : Expr → Bool
  | .ListComp .. => true
  | _ => false
def isTup : Expr → Bool
  | .Tuple .. => true
  | _ => false
def lcHit (scope : Scope) (x : Str) : Bool := scope.names.any fun (n, k) => n == x && (k == .local || k == .cell)
/-- 0: no list is swapped; 1: a list is built into the name -/
def asgK (sc : Scope) (x : Str) (px : Pos) (e : Expr) : Option Bool := match e with
  | .ListComp _ _ s lp => if plainB sc x then (if px.line == lp.line then (if lcHit s x then some false else some true) else some false) else some false
  | _ => some false
def nmLine (sc : Scope) (l : Nat) : Expr → Bool
  | .Name x p => plainB sc x && p.line == l
  | _ => false
def disj (pr is : List Nat) : Bool := is.all fun i => !pr.contains i
def parB (sc : Scope) (ts xs : List Expr) : Bool := match ts, xs with
  | [.Name x px, .Name y py], [a, b] => plainB sc x && plainB sc y && py.line == px.line && !(foldedForSure 8 a && foldedForSure 8 b) && !(constantsAlone 8 a && constantsAlone 8 b)
  | [.Name x px, .Name y py, .Name z pz], [a, b, d] => plainB sc x && plainB sc y && plainB sc z && py.line == px.line && pz.line == px.line && !(foldedForSure 8 a && foldedForSure 8 b && foldedForSure 8 d) && !(constantsAlone 8 a && constantsAlone 8 b && constantsAlone 8 d)
  | _, _ => false
section
variable (c : Cfg) (pr : List Nat) (sc : Scope)
mutual
def chkS : S → Stmt → Bool
  | .asg i e, st => match st with | .Assign [.Name x px] ex _ => isAt c.N i x && locB sc x && !pr.contains i && chkE c e sc ex | _ => false
  | .asgT is e, st => match st with | .Assign [tg] ex _ => isTup tg && chkTg c.N sc (.tp is) tg && disj pr is && chkE c e sc ex && !isTup ex | _ => false
  | .par is es, st => match st with | .Assign [.Tuple ts _ _] (.Tuple xs _ _) _ => chkN c.N sc is ts && decide is.Nodup && disj pr is && chkEs c es sc xs && (parB sc ts xs || (xs.all (foldedForSure 8) && decide (xs.length ≤ 20))) | _ => false
  | .setI i ix e, st => match st with | .Assign [.Subscript (.Name x _) ixe _] ex _ => isAt c.N i x && visB sc x && chkE c ix sc ixe && chkE c e sc ex | _ => false
  | .aug op i e, st => match st with | .AugAssign (.Name x _) o ex _ => bopB op o && decide (op ≠ .pow) && isAt c.N i x && locB sc x && !pr.contains i && chkE c e sc ex | _ => false
  | .augI _ _ _ _, _ => false
  | .app i e, st => match st with | .Expr (.Call (.Attribute (.Name x _) m ap) [ex] [] p) _ => isAt c.N i x && visB sc x && decide (m = "append") && (ap.endLine == p.line) && chkE c e sc ex | _ => false
  | .revI i, st => match st with | .Expr (.Call (.Attribute (.Name x _) m ap) [] [] p) _ => isAt c.N i x && visB sc x && decide (m = "reverse") && (ap.endLine == p.line) | _ => false
  | .expr e, st => match st with | .Expr ex _ => chkE c e sc ex && !isLC ex | _ => false
  | .ret e, st => match st with | .Return (some ex) _ => chkE c e sc ex | _ => false
  | .retN, st => match st with | .Return none _ => true | _ => false
  | .ite d a b, st => match st with | .If t xs ys _ => okT d && chkE c d sc t && chkSs a xs && chkSs b ys | _ => false
  | .for t it b, st => match st with | .For tg iter body [] _ => chkTg c.N sc t tg && disj pr (tSl t) && (chkE c it sc iter || chkR c it sc iter) && chkSs b body | _ => false
  | .while d b, st => match st with | .While t body [] _ => okT d && chkE c d sc t && chkSs b body | _ => false
  | .brk, st => match st with | .Break _ => true | _ => false
  | .pass, st => match st with | .Pass _ => true | _ => false
  | .kill _, _ => false
def chkSs : Ss → List Stmt → Bool
  | .nil, l => l.isEmpty
  | .cons s ss, l => match s with
    | .kill _ => chkSs ss l
    | s => match l with
      | x :: xs => chkS s x && chkSs ss xs
      | [] => false
end
end
/-- where a def's body runs -/
structure So (c : Cfg) (G : List D) (Φ : Calls) (k : Nat) (X : Cx) (sc : Scope) : Prop where
  O : Ok c G Φ k X sc
  W : Tg X sc
  kind : sc.kind = .function
  hp : PassesOwn (model X.prog X.w) X.A X.env X.xe

/-! ### the readings -/
def EndOk (K : Frag) (pr : List Nat) (env : Mini.Env) (σ : L2.St) (F H : Hp) (Dn : Ends) : Out → Mini.Env → Prop
  | .next, env' => ∀ σ' F' H', RE K F' H' env' σ' → Ext env σ F H env' σ' F' H' → (∀ i ∈ pr, σ'[i]? = σ[i]?) → Dn.nx σ' H'
  | .brk, env' => ∀ σ' F' H', RE K F' H' env' σ' → Ext env σ F H env' σ' F' H' → (∀ i ∈ pr, σ'[i]? = σ[i]?) → Dn.bk σ' H'
  | .ret r, env' => ∀ v σ' F' H', RE K F' H' env' σ' → Ext env σ F H env' σ' F' H' → (∀ i ∈ pr, σ'[i]? = σ[i]?) → RR K H F' H' env' σ' v r → Dn.rt v H'
theorem back2 {K : Frag} {H0 F0 F1 H1 F2 H2 : Hp} {env0 env1 env2 : Mini.Env} {σ0 σ1 σ2 : L2.St} {v : V} {r : RV} (q : RR K H1 F2 H2 env2 σ2 v r) (x : Ext env0 σ0 F0 H0 env1 σ1 F1 H1) : RR K H0 F2 H2 env2 σ2 v r := by
  cases r with
  | val d => exact q
  | own ds =>
    obtain ⟨a, vs, e, h0, r⟩ := q
    exact ⟨a, vs, e, x.free h0, r⟩
  | ref i => exact q
theorem EndOk.from {K : Frag} {pr : List Nat} {env env1 : Mini.Env} {σ σ1 : L2.St} {F H F1 H1 : Hp} {Dn : Ends} {o : Out} {env' : Mini.Env} (h : EndOk K pr env σ F H Dn o env') (x : Ext env σ F H env1 σ1 F1 H1) (a : ∀ i ∈ pr, σ1[i]? = σ[i]?) : EndOk K pr env1 σ1 F1 H1 Dn o env' := by
  cases o with
  | next => exact fun σ' F' H' re y b => h σ' F' H' re (x.trans y) fun i hi => (b i hi).trans (a i hi)
  | brk => exact fun σ' F' H' re y b => h σ' F' H' re (x.trans y) fun i hi => (b i hi).trans (a i hi)
  | ret r => exact fun v σ' F' H' re y b q => h v σ' F' H' re (x.trans y) (fun i hi => (b i hi).trans (a i hi)) (back2 q x)
def tS (K : Frag) (pr : List Nat) (ex : Mini.Env → Option (Out × Mini.Env)) : TS := fun Dn σ H => ∃ env F o env', RE K F H env σ ∧ ex env = some (o, env') ∧ EndOk K pr env σ F H Dn o env'

section
variable {c : Cfg} {G : List D} {Φ : Calls} {k : Nat} {X : Cx} {sc : Scope} {pr : List Nat}
theorem disj_ok {is : List Nat} (h : disj pr is = true) : ∀ i ∈ pr, i ∉ is := fun i hi hm => by
  have := List.all_eq_true.mp h i hm
  simp at this
  exact this hi
theorem not_in {i : Nat} (h : (!pr.contains i) = true) : ∀ j ∈ pr, j ≠ i := fun j hj e => by
  subst e
  simp at h
  exact h hj
theorem set_ne {σ : L2.St} {i : Nat} {x : Option V} (h : ∀ j ∈ pr, j ≠ i) : ∀ j ∈ pr, (σ.set i x)[j]? = σ[j]? := fun j hj => by
  rw [List.getElem?_set_ne (fun e => h j hj e.symm)]
theorem fz_len {env env' : Mini.Env} {r : RV} {d : D} (h : fz env r = some (d, env')) : env'.length = env.length := by
  unfold fz at h
  split at h
  · cases h; rfl
  · cases h; rfl
  · split at h <;> first | (cases h; done) | skip
    · cases h; rfl
    · cases h; exact List.length_set
/-- one result is stored -/
theorem bindR2 {K : Frag} {F0 H0 F H : Hp} {env0 env env' : Mini.Env} {σ0 σ : L2.St} {v : V} {r : RV} (h : RE K F H env σ) (x : Ext env0 σ0 F0 H0 env σ F H) (i : Nat) (q : RR K H0 F H env σ v r) (e : bindR env i r = some env') :
    ∃ F', RE K F' H env' (σ.set i (some v)) ∧ Ext env0 σ0 F0 H0 env' (σ.set i (some v)) F' H := by
  by_cases hi : i < env.length
  · exact bindR_ok h x hi q e
  · have hl := h.len
    have hs : σ.set i (some v) = σ := List.set_eq_of_length_le (by omega)
    rw [hs]
    cases r with
    | val d => cases e; rw [List.set_eq_of_length_le (by omega)]; exact ⟨F, h, x⟩
    | own ds => cases e; rw [List.set_eq_of_length_le (by omega)]; exact ⟨F, h, x⟩
    | ref j =>
      simp only [bindR, Option.map_eq_some_iff] at e
      obtain ⟨⟨d, e1⟩, hf, he⟩ := e
      have hl' := fz_len hf
      subst he
      obtain ⟨F', h', x', _⟩ := fz_ok h x q hf
      rw [List.set_eq_of_length_le (by show e1.length ≤ i; omega)]
      exact ⟨F', h', x'⟩

/-! ### name = e -/
theorem sw_pl {e : Expr} {o : Option Expr} {l : Nat} {v : PySem.Env} (h : isLC e = false) (pl : plX e = true) : swapsWith e o l v = pure false := by
  cases e <;> first | rfl | (cases h; done) | (cases pl; done)
theorem sw_sub {e a b : Expr} {p : Pos} {l : Nat} {v : PySem.Env} (pl : plX e = true) : swapsWith e (some (.Subscript a b p)) l v = pure false := by
  cases e <;> first | rfl | (cases pl; done)
theorem sw_tup {e : Expr} {es : List Expr} {i : Nat} {p : Pos} {l : Nat} {v : PySem.Env} (pl : plX e = true) : swapsWith e (some (.Tuple es i p)) l v = pure false := by
  cases e <;> first | rfl | (cases pl; done)
theorem sole_pl {t e : Expr} {l : Nat} {v : PySem.Env} (h : swapsWith e (some t) l v = pure false) : swapsWithSole [t] e l v = pure false := by
  unfold swapsWithSole; exact h
theorem plain_look {sc : Scope} {x : Str} (h : plainB sc x = true) : sc.names.lookup x = some .local := by
  unfold plainB at h
  split at h
  · assumption
  · cases h
theorem sw_none (S : So c G Φ k X sc) {x : Str} {px : Pos} {e : Expr} {l : Nat} (pl : plX e = true) (h : asgK sc x px e = some false) : swapsWith e (some (.Name x px)) l X.env = pure false := by
  by_cases hl : isLC e = true
  · cases e <;> first | (cases hl; done) | skip
    rename_i el gs s lp
    have hk : X.env.kindOf x = sc.names.lookup x := by show X.env.scope.names.lookup x = _; rw [S.O.scope]
    unfold swapsWith
    dsimp only
    simp only [asgK] at h
    split at h
    · split at h
      · split at h
        · rename_i h3
          have h3' : (s.names.any fun (n, k) => n == x && (k == .local || k == .cell)) = true := h3
          show pure (X.env.blockKind == .function && X.env.kindOf x == some .local && px.line == (Expr.ListComp el gs s lp).pos.line && !(s.names.any fun (n, k) => n == x && (k == .local || k == .cell))) = pure false
          rw [h3', Bool.not_true, Bool.and_false]
        · cases h
      · rename_i h2
        show pure (X.env.blockKind == .function && X.env.kindOf x == some .local && px.line == lp.line && !(s.names.any fun (n, k) => n == x && (k == .local || k == .cell))) = pure false
        rw [Bool.eq_false_iff.mpr h2, Bool.and_false, Bool.false_and]
    · rename_i h1
      have : (X.env.kindOf x == some NameKind.local) = false := by
        rw [hk]
        unfold plainB at h1
        split at h1
        · exact absurd rfl h1
        · rename_i hn
          cases hx : sc.names.lookup x with
          | none => rfl
          | some kd => cases kd <;> first | rfl | exact absurd hx hn
      show pure (X.env.blockKind == .function && X.env.kindOf x == some .local && px.line == lp.line && !(s.names.any fun (n, k) => n == x && (k == .local || k == .cell))) = pure false
      rw [this, Bool.and_false, Bool.false_and, Bool.false_and]
  · exact sw_pl (Bool.eq_false_iff.mpr hl) pl
theorem imp_asg {te : TE} {i : Nat} {e : E} (hp : ∀ j ∈ pr, j ≠ i) (ht : ∀ σ H Q, tX X.K G Φ e σ H Q → te σ H Q) : ∀ Dn σ H, tS X.K pr (exS G Φ (.asg i e)) Dn σ H → tAsg te (gName i) Dn σ H := fun Dn σ H ⟨env, F, o, env', hre, hev, q⟩ => by
  simp only [exS, evE, Option.bind_eq_some_iff, Option.map_eq_some_iff] at hev
  obtain ⟨⟨r, e1⟩, h1, env2, h2, h3⟩ := hev
  cases h3
  refine ht _ _ _ ⟨env, F, r, e1, hre, h1, fun v F1 H1 re1 x1 q1 => ?_⟩
  obtain ⟨F2, re2, x2⟩ := bindR2 re1 x1 i q1 h2
  exact q _ F2 H1 re2 x2 (set_ne hp)
/-- a list that is built into the name -/
theorem p_setlc (S : So c G Φ k X sc) {i : Nat} {own : List Nat} {t : T} {elt it : E} {cnd : Option E} {z : Str} {x tg iter : Expr} {y : Option Expr} {scope : Scope} {pos pz spos : Pos} (hz : isAt c.N i z = true) (hzl : plainB sc z = true) (hln : (pz.line == pos.line) = true) (hlc : lcHit scope z = false)
    (hblk : blkC c.N sc scope (ownP c.N own) = true) (htg : chkTg c.N scope t tg = true)
    (pi : plX iter = true) (hi : PI X tg iter (tI X.K G Φ it)) (he : ∀ (X' : Cx), Ok c G Φ k X' (relS scope sc) → X'.K = X.K → SE X' G Φ x elt)
    (hc : match cnd, y with | none, none => True | some cc, some yy => ∀ (X' : Cx), Ok c G Φ k X' (relS scope sc) → X'.K = X.K → ST X' G Φ yy cc | _, _ => False) :
    PS X (.Assign [.Name z pz] (.ListComp x [⟨tg, iter, ifsOf y, 0⟩] scope pos) spos) (tAsg (tLc (tI X.K G Φ it) (gT X.K t) (ttO X.K G Φ cnd) (tX X.K G Φ elt) own) (gName i)) := by
  have O := S.O
  have hzl' : X.env.scope.names.lookup z = some .local := by rw [O.scope]; exact plain_look hzl
  have := ps_setLc (pos := pos) (spos := spos) (py := pz) (elt := x) (ifs := ifsOf y) O.calm O.nodup (O.at_ hz) hzl' (sw_true (by rw [O.scope]; exact S.kind) hzl' hln hlc) hi (own := ownP c.N own) (scope := scope) (g := gT X.K t) (tt := ttO X.K G Φ cnd) (te := tX X.K G Φ elt) (blkOk_by (by rw [O.hN, O.scope]; exact hblk))
    (fun s H C cl fp => g_tg (O.blk s H scope C cl fp) (Tg.blk O s H scope C cl fp) htg)
    (fun s H C cl fp => by
      cases cnd with
      | none => cases y with
        | none => exact pts_nil
        | some _ => exact hc.elim
      | some cc => cases y with
        | none => exact hc.elim
        | some yy => exact pts_one (hc _ (O.blk s H scope C cl fp) rfl))
    (fun s H C cl fp => he _ (O.blk s H scope C cl fp) rfl) (noFold_pl pi)
  rw [ownP_snd] at this
  exact this
theorem asgK_true {sc : Scope} {x : Str} {px : Pos} {e : Expr} (h : asgK sc x px e = some true) : ∃ el gs s lp, e = .ListComp el gs s lp ∧ plainB sc x = true ∧ (px.line == lp.line) = true ∧ lcHit s x = false := by
  unfold asgK at h
  split at h
  · rename_i el gs s lp
    split at h
    · rename_i h1
      split at h
      · rename_i h2
        split at h
        · cases h
        · rename_i h3
          exact ⟨el, gs, s, lp, rfl, h1, h2, Bool.eq_false_iff.mpr h3⟩
      · cases h
    · cases h
  · cases h
theorem asgK_some {sc : Scope} {x : Str} {px : Pos} {e : Expr} : asgK sc x px e = some true ∨ asgK sc x px e = some false := by
  unfold asgK
  split
  · split
    · split
      · split
        · exact .inr rfl
        · exact .inl rfl
      · exact .inr rfl
    · exact .inr rfl
  · exact .inr rfl
theorem x_asg (S : So c G Φ k X sc) {i : Nat} {x : Str} {px pos : Pos} {e : E} {ex : Expr} (hi : isAt c.N i x = true) (hl : locB sc x = true) (hp : ∀ j ∈ pr, j ≠ i) (hk : chkE c e sc ex = true) : PS X (.Assign [.Name x px] ex pos) (tS X.K pr (exS G Φ (.asg i e))) := by
  rcases asgK_some (sc := sc) (x := x) (px := px) (e := ex) with h | h
  · obtain ⟨el, gs, s, lp, rfl, h1, h2, h3⟩ := asgK_true h
    have O := S.O
    cases e <;> first | (unfold chkE at hk; cases hk; done) | skip
    case inl.mt m _ _ => exfalso; cases m <;> (unfold chkE at hk; cases hk)
    case inl.comp own elt t it =>
      unfold chkE at hk; split at hk <;> first | (cases hk; done) | skip
      rename_i heq
      cases heq
      simp only [Bool.and_eq_true, Bool.or_eq_true] at hk
      obtain ⟨⟨⟨⟨k1, k2⟩, k3⟩, k4⟩, k5⟩ := hk
      have hs : ∀ i ∈ tSl t, i ∈ own := fun i hi => by simpa using List.all_eq_true.mp k3 i hi
      refine PS.imp (p_setlc (y := none) (cnd := none) (it := it) (elt := elt) (t := t) (own := own) S hi h1 h2 h3 k1 k2 ?_ ?_ (fun X' O' _ => (sX elt X' _ _ O' k5).1) trivial) (imp_asg hp (imp_comp hs))
      · rcases k4 with h4 | h4
        · exact chk_pl h4
        · exact rng_pl h4
      · rcases k4 with h4 | h4
        · exact i_of (sX it X sc _ O h4).1
        · cases it <;> first | (unfold chkR at h4; cases h4; done) | skip
          rename_i es
          obtain ⟨y, xs', p, pos, rfl, hy, hgy, h0, h3', s⟩ := sRs (.rng es) X sc _ O h4 es rfl
          exact i_rng O hy hgy h0 h3' s
    case inl.compIf own elt t it d =>
      unfold chkE at hk; split at hk <;> first | (cases hk; done) | skip
      rename_i heq
      cases heq
      simp only [Bool.and_eq_true, Bool.or_eq_true] at hk
      obtain ⟨⟨⟨⟨⟨⟨k1, k2⟩, k3⟩, k4⟩, k5⟩, k6⟩, k7⟩ := hk
      have hs : ∀ i ∈ tSl t, i ∈ own := fun i hi => by simpa using List.all_eq_true.mp k3 i hi
      refine PS.imp (p_setlc (y := some _) (cnd := some d) (it := it) (elt := elt) (t := t) (own := own) S hi h1 h2 h3 k1 k2 ?_ ?_ (fun X' O' _ => (sX elt X' _ _ O' k5).1) (fun X' O' _ => (sX d X' _ _ O' k7).2 k6)) (imp_asg hp (imp_compIf hs))
      · rcases k4 with h4 | h4
        · exact chk_pl h4
        · exact rng_pl h4
      · rcases k4 with h4 | h4
        · exact i_of (sX it X sc _ O h4).1
        · cases it <;> first | (unfold chkR at h4; cases h4; done) | skip
          rename_i es
          obtain ⟨y, xs', p, pos, rfl, hy, hgy, h0, h3', s⟩ := sRs (.rng es) X sc _ O h4 es rfl
          exact i_rng O hy hgy h0 h3' s
  · exact PS.imp (ps_set S.O.nodup (S.O.at_ hi) (S.W.st x hl).1 (sX e X sc ex S.O hk).1 (sw_none S (chk_pl hk) h) (S.W.st x hl).2) (imp_asg hp fun _ _ _ w => w)

/-! ### a, b = e -/
theorem x_asgT (S : So c G Φ k X sc) {is : List Nat} {e : E} {tg ex : Expr} {pos : Pos} (h1 : isTup tg = true) (h2 : chkTg c.N sc (.tp is) tg = true) (hp : ∀ j ∈ pr, j ∉ is) (hk : chkE c e sc ex = true) (hn : isTup ex = false) : PS X (.Assign [tg] ex pos) (tS X.K pr (exS G Φ (.asgT is e))) := by
  cases tg <;> first | (cases h1; done) | skip
  have pl := chk_pl hk
  refine PS.imp (ps_asg (sX e X sc ex S.O hk).1 (g_tg S.O S.W h2) (sole_pl (sw_tup pl)) (by cases ex <;> first | rfl | cases hn) rfl) fun Dn σ H ⟨env, F, o, env', hre, hev, q⟩ => ?_
  simp only [exS, evE, Option.bind_eq_some_iff, Option.map_eq_some_iff] at hev
  obtain ⟨⟨r, e1⟩, h1, d, h2, env2, h3, h4⟩ := hev
  cases h4
  refine ⟨env, F, r, e1, hre, h1, fun v F1 H1 re1 x1 q1 => ?_⟩
  have rd := pk_ok re1 q1 h2
  cases d <;> first | (cases h3; done) | skip
  exact ⟨e1, F1, _, _, re1, rd, h3, fun σ' re2 tr ag ln => q σ' F1 H1 re2 (tr _ _ _ _ x1) fun j hj => ag j (hp j hj)⟩

/-! ### a, b = x, y -/
def setσ : L2.St → List Nat → List V → L2.St
  | σ, i :: is, v :: vs => setσ (σ.set i (some v)) is vs
  | σ, _, _ => σ
theorem setσ_ne : ∀ {is : List Nat} {vs : List V} {σ : L2.St} {j : Nat}, j ∉ is → (setσ σ is vs)[j]? = σ[j]?
  | [], _, _, _, _ => by simp [setσ]
  | i :: is, [], _, _, _ => by simp [setσ]
  | i :: is, v :: vs, σ, j, h => by
    simp only [List.mem_cons, not_or] at h
    rw [setσ, setσ_ne h.2, List.getElem?_set_ne (fun e => h.1 e.symm)]
theorem RRs.later {K : Frag} {H0 H1 F1 F2 H2 : Hp} {env1 env2 : Mini.Env} {σ : L2.St} (x : Ext env1 σ F1 H1 env2 σ F2 H2) : ∀ {vs : List V} {rs : List RV}, RRs K H0 F1 H1 env1 σ vs rs → RRs K H0 F2 H2 env2 σ vs rs
  | [], [], h => h
  | v :: vs, r :: rs, ⟨h1, h2, h3⟩ => ⟨MS.later h1 x, RRs.later x h2, h3⟩
  | [], _ :: _, h => h.elim
  | _ :: _, [], h => h.elim
def noRefs (rs : List RV) : Bool := rs.all noRef
theorem unref_ok {K : Frag} {H0 F0 H : Hp} {env0 : Mini.Env} {σ : L2.St} : ∀ {vs : List V} {rs rs' : List RV} {F : Hp} {env env' : Mini.Env}, RE K F H env σ → Ext env0 σ F0 H0 env σ F H → RRs K H0 F H env σ vs rs → unref env rs = some (rs', env') →
    ∃ F', RE K F' H env' σ ∧ Ext env0 σ F0 H0 env' σ F' H ∧ Ext env σ F H env' σ F' H ∧ RRs K H0 F' H env' σ vs rs' ∧ noRefs rs' = true ∧ ∀ (j : Nat) (ds : List D), rs'[j]? = some (.own ds) → rs[j]? = some (.own ds)
  | [], [], rs', F, env, env', h, x, q, e => by
    cases e
    exact ⟨F, h, x, .refl, trivial, rfl, fun _ _ z => z⟩
  | v :: vs, .ref i :: rs, rs', F, env, env', h, x, ⟨q1, q2, q3⟩, e => by
    simp only [unref, Option.bind_eq_some_iff, Option.map_eq_some_iff] at e
    obtain ⟨⟨d, e1⟩, h1, ⟨rs2, e2⟩, h2, h3⟩ := e
    cases h3
    obtain ⟨F1, re1, x1, r1⟩ := fz_ok (K := K) (env0 := env) (σ0 := σ) (F0 := F) (H0 := H) (v := v) h .refl (r := .ref i) q1 h1
    obtain ⟨F2, re2, x2, y2, q2', nr, own⟩ := unref_ok re1 (x.trans x1) (RRs.later x1 q2) h2
    refine ⟨F2, re2, x2, x1.trans y2, ⟨Rep.mono y2.mono d r1, q2', fun ds z => nomatch z⟩, by simpa [noRefs, noRef] using nr, fun j ds z => ?_⟩
    cases j with
    | zero => simp at z
    | succ j => simpa using own j ds (by simpa using z)
  | v :: vs, .val d :: rs, rs', F, env, env', h, x, ⟨q1, q2, q3⟩, e => by
    simp only [unref, Option.map_eq_some_iff] at e
    obtain ⟨⟨rs2, e2⟩, h2, h3⟩ := e
    cases h3
    obtain ⟨F2, re2, x2, y2, q2', nr, own⟩ := unref_ok h x q2 h2
    refine ⟨F2, re2, x2, y2, ⟨MS.later (r := .val d) q1 y2, q2', fun ds z => nomatch z⟩, by simpa [noRefs, noRef] using nr, fun j ds z => ?_⟩
    cases j with
    | zero => simp at z
    | succ j => simpa using own j ds (by simpa using z)
  | v :: vs, .own d :: rs, rs', F, env, env', h, x, ⟨q1, q2, q3⟩, e => by
    simp only [unref, Option.map_eq_some_iff] at e
    obtain ⟨⟨rs2, e2⟩, h2, h3⟩ := e
    cases h3
    obtain ⟨F2, re2, x2, y2, q2', nr, own⟩ := unref_ok h x q2 h2
    refine ⟨F2, re2, x2, y2, ⟨MS.later (r := .own d) q1 y2, q2', fun ds z j ds' e' => q3 ds z j ds' (own j ds' e')⟩, by simpa [noRefs, noRef] using nr, fun j ds z => ?_⟩
    cases j with
    | zero => simpa using z
    | succ j => simpa using own j ds (by simpa using z)
  | [], _ :: _, _, _, _, _, _, _, h, _ => h.elim
  | _ :: _, [], _, _, _, _, _, _, h, _ => h.elim
/-- results that are no names' lists, with the new ones apart from what the names hold -/
theorem RRs.move {K : Frag} {H0 F H : Hp} {env1 env2 : Mini.Env} {σ1 σ2 : L2.St} : ∀ {vs : List V} {rs : List RV}, RRs K H0 F H env1 σ1 vs rs → noRefs rs = true → (∀ (j : Nat) (ds : List D) (a : Addr), rs[j]? = some (.own ds) → vs[j]? = some (.ref a) → ∀ i, OwnS env2 σ2 i a → OwnS env1 σ1 i a) → RRs K H0 F H env2 σ2 vs rs
  | [], [], h, _, _ => h
  | v :: vs, r :: rs, ⟨h1, h2, h3⟩, nr, g => by
    simp only [noRefs, List.all_cons, Bool.and_eq_true] at nr
    refine ⟨?_, RRs.move h2 nr.2 fun j ds a e1 e2 => g (j + 1) ds a (by simpa using e1) (by simpa using e2), h3⟩
    cases r with
    | val d => exact h1
    | ref i => cases nr.1
    | own ds =>
      obtain ⟨a, ws, e, e0, f, hh, rr, no⟩ := h1
      exact ⟨a, ws, e, e0, f, hh, rr, fun i o => no i (g 0 ds a rfl (by rw [e]; rfl) i o)⟩
  | [], _ :: _, h, _, _ => h.elim
  | _ :: _, [], h, _, _ => h.elim
theorem bindRs_ok {K : Frag} {H0 F0 H F : Hp} {env0 : Mini.Env} {σ0 : L2.St} : ∀ {is : List Nat} {vs : List V} {rs : List RV} {env env' : Mini.Env} {σ : L2.St}, RE K F H env σ → Ext env0 σ0 F0 H0 env σ F H → RRs K H0 F H env σ vs rs → noRefs rs = true → bindRs env is rs = some env' →
    RE K F H env' (setσ σ is vs) ∧ Ext env0 σ0 F0 H0 env' (setσ σ is vs) F H ∧ vs.length = is.length
  | [], [], [], env, env', σ, h, x, _, _, e => by cases e; exact ⟨h, x, rfl⟩
  | i :: is, v :: vs, r :: rs, env, env', σ, h, x, ⟨q1, q2, q3⟩, nr, e => by
    simp only [noRefs, List.all_cons, Bool.and_eq_true] at nr
    simp only [bindRs, Option.bind_eq_some_iff] at e
    obtain ⟨e1, h1, h2⟩ := e
    have step : ∃ (re : RE K F H e1 (σ.set i (some v))), Ext env0 σ0 F0 H0 e1 (σ.set i (some v)) F H ∧ RRs K H0 F H e1 (σ.set i (some v)) vs rs := by
      cases r with
      | ref j => cases nr.1
      | val d =>
        cases h1
        obtain ⟨re, tr⟩ := setVal2 h i q1
        refine ⟨re, tr _ _ _ _ x, q2.move nr.2 fun j ds a e1 e2 i' o => ?_⟩
        have y := tr env σ F H .refl
        rcases y.onew i' a o with w | w
        · exact w
        · exfalso
          obtain ⟨_, ws, z⟩ := re.own o
          rw [w] at z; cases z
      | own ds =>
        cases h1
        obtain ⟨a, ws, ev, e0, f, hh, rr, no⟩ := q1
        by_cases hi : i < env.length
        · subst ev
          obtain ⟨re, ow⟩ := h.setCell hi f hh rr no
          obtain ⟨F', re', x'⟩ := bindR_ok h x (v := .ref a) (r := .own ds) hi ⟨a, ws, rfl, e0, f, hh, rr, no⟩ rfl
          refine ⟨re, ⟨x.mono, x.keep, x.live, x.fnew, x'.cnew, x'.onew⟩, q2.move nr.2 fun j ds' b e1 e2 i' o => ?_⟩
          rcases ow i' b o with w | w
          · exact w.1
          · exact absurd (by rw [e2, w]) (q3 ds rfl j ds' e1)
        · have hl := h.len
          have hs : σ.set i (some v) = σ := List.set_eq_of_length_le (by omega)
          have he : env.set i (.cell ds) = env := List.set_eq_of_length_le (by omega)
          rw [hs, he]
          exact ⟨h, x, q2⟩
    obtain ⟨re, x1, q'⟩ := step
    obtain ⟨a, b, l⟩ := bindRs_ok re x1 q' nr.2 h2
    exact ⟨a, b, by rw [List.length_cons, List.length_cons, l]⟩
  | [], [], _ :: _, _, _, _, _, _, h, _, _ => h.elim
  | [], _ :: _, [], _, _, _, _, _, h, _, _ => h.elim
  | [], _ :: _, _ :: _, _, _, _, _, _, _, _, e => nomatch e
  | _ :: _, [], [], _, _, _, _, _, _, _, e => nomatch e
  | _ :: _, [], _ :: _, _, _, _, _, _, h, _, _ => h.elim
  | _ :: _, _ :: _, [], _, _, _, _, _, h, _, _ => h.elim
/-- the reading, down to the stores -/
theorem imp_par {is : List Nat} {es : Es} (hp : ∀ j ∈ pr, j ∉ is) : ∀ Dn σ H, tS X.K pr (exS G Φ (.par is es)) Dn σ H → tRs X.K G Φ es σ H fun vs H1 => vs.length = is.length ∧ (∀ p, H1 p = none → Dn.nx (setσ σ is vs) (upd H1 p (.tup vs))) ∧ Dn.nx (setσ σ is vs) H1 := fun Dn σ H ⟨env, F, o, env', hre, hev, q⟩ => by
  simp only [exS, Option.bind_eq_some_iff, Option.map_eq_some_iff] at hev
  obtain ⟨⟨rs, e1⟩, h1, ⟨rs', e2⟩, h2, e3, h3, h4⟩ := hev
  cases h4
  refine ⟨env, F, rs, e1, hre, h1, fun vs F1 H1 re1 x1 q1 => ?_⟩
  obtain ⟨F2, re2, x2, _, q2, nr, _⟩ := unref_ok re1 x1 q1 h2
  obtain ⟨re3, x3, hl⟩ := bindRs_ok re2 x2 q2 nr h3
  refine ⟨hl, fun p hp' => ?_, q _ F2 H1 re3 x3 fun j hj => setσ_ne (hp j hj)⟩
  exact q _ F2 _ (re3.newH _ hp') (x3.trans (.newH _ hp')) fun j hj => setσ_ne (hp j hj)
end
end MS

/-! Statements: stores side by side, into lists, in place; loops. -/
namespace MS
open PySem PySem.Spec PyProof.Rows L2 Mini
section
variable {c : Cfg} {G : List D} {Φ : Calls} {k : Nat} {X : Cx} {sc : Scope} {pr : List Nat}
theorem blockFn {env : PySem.Env} (h : env.scope.kind = .function) : (env.blockKind != .function) = false := by
  unfold PySem.Env.blockKind; rw [h]; rfl
theorem kindLoc {env : PySem.Env} {x : Str} (h : env.scope.names.lookup x = some .local) : (env.kindOf x == some .local) = true := by
  have : env.kindOf x = some .local := h
  rw [this]; rfl
theorem sw2 {env : PySem.Env} {x y : Str} {px py pt : Pos} {kt k2 : Nat} {pt2 : Pos} {a b : Expr} (hk : env.scope.kind = .function) (hx : env.scope.names.lookup x = some .local) (hy : env.scope.names.lookup y = some .local)
    (hl : (py.line == px.line) = true) (hxy : x ≠ y) (pa : plX a = true) (pb : plX b = true) (hf : (foldedForSure 8 a && foldedForSure 8 b) = false) (hc : (constantsAlone 8 a && constantsAlone 8 b) = false) :
    swappedStores [.Tuple [.Name x px, .Name y py] kt pt] (.Tuple [a, b] k2 pt2) env = pure (some [x, y]) := by
  have hb := blockFn hk
  have lx := kindLoc hx
  have ly := kindLoc hy
  have ne : (y == x) = false := by simpa using fun e => hxy e.symm
  unfold swappedStores
  simp only [List.any_cons, List.any_nil, hb, List.all_cons, List.all_nil, Bool.and_true, hf, hc, List.filterMap_cons, List.filterMap_nil, lx, ly, hl, Bool.true_and, List.head?_cons, Option.map_some, Option.getD_some, Expr.pos, beq_self_eq_true, if_true, List.length_cons, List.length_nil]
  simp [List.eraseDups, List.eraseDupsBy, List.eraseDupsBy.loop, ne]
  intro h
  exfalso
  rcases h with h | h <;> (split at h <;> first | (cases pa; done) | (cases pb; done) | (cases h; done))
theorem sw3 {env : PySem.Env} {x y z : Str} {px py pz pt : Pos} {kt k2 : Nat} {pt2 : Pos} {a b d : Expr} (hk : env.scope.kind = .function) (hx : env.scope.names.lookup x = some .local) (hy : env.scope.names.lookup y = some .local) (hz : env.scope.names.lookup z = some .local)
    (hl : (py.line == px.line) = true) (hl2 : (pz.line == px.line) = true) (hxy : x ≠ y) (hxz : x ≠ z) (hyz : y ≠ z) (pa : plX a = true) (pb : plX b = true) (pd : plX d = true) (hf : (foldedForSure 8 a && (foldedForSure 8 b && foldedForSure 8 d)) = false) (hc : (constantsAlone 8 a && (constantsAlone 8 b && constantsAlone 8 d)) = false) :
    swappedStores [.Tuple [.Name x px, .Name y py, .Name z pz] kt pt] (.Tuple [a, b, d] k2 pt2) env = pure (some [x, y, z]) := by
  have hb := blockFn hk
  have lx := kindLoc hx
  have ly := kindLoc hy
  have lz := kindLoc hz
  have ne : (y == x) = false := by simpa using fun e => hxy e.symm
  have ne2 : (z == x) = false := by simpa using fun e => hxz e.symm
  have ne3 : (z == y) = false := by simpa using fun e => hyz e.symm
  unfold swappedStores
  simp only [List.any_cons, List.any_nil, hb, List.all_cons, List.all_nil, Bool.and_true, hf, hc, List.filterMap_cons, List.filterMap_nil, lx, ly, lz, hl, hl2, Bool.true_and, List.head?_cons, Option.map_some, Option.getD_some, Expr.pos, beq_self_eq_true, if_true, List.length_cons, List.length_nil]
  simp [List.eraseDups, List.eraseDupsBy, List.eraseDupsBy.loop, ne, ne2, ne3]
  intro h
  exfalso
  rcases h with h | h | h <;> (split at h <;> first | (cases pa; done) | (cases pb; done) | (cases pd; done) | (cases h; done))
theorem sw0 {env : PySem.Env} {ts vs : List Expr} {kt k2 : Nat} {pt pt2 : Pos} (h : vs.all (foldedForSure 8) = true) : swappedStores [.Tuple ts kt pt] (.Tuple vs k2 pt2) env = pure none := by
  unfold swappedStores
  simp only [h, if_true]
  repeat' (first | rfl | split)
def gSets (is : List Nat) : TGs := fun vs σ H Q => vs.length = is.length ∧ Q (setσ σ is vs) H
theorem g_sets (O : Ok c G Φ k X sc) (W : Tg X sc) : ∀ {is : List Nat} {es : List Expr}, chkN c.N sc is es = true → PGs X es (gSets is)
  | [], [], _ => PGs.imp pgs_nil fun vs σ H Q ⟨hl, q⟩ => by
    cases vs with
    | nil => exact ⟨rfl, q⟩
    | cons => cases hl
  | [], _ :: _, h => nomatch h
  | _ :: _, [], h => nomatch h
  | i :: is, e :: es, h => by
    cases e <;> first | (cases h; done) | skip
    rename_i x p
    simp only [chkN, Bool.and_eq_true] at h
    obtain ⟨⟨h1, h2⟩, h3⟩ := h
    refine PGs.imp (pgs_cons (pg_name O.nodup (O.at_ h1) (W.st x h2).1 (W.st x h2).2) (g_sets O W h3) rfl) fun vs σ H Q ⟨hl, q⟩ => ?_
    cases vs with
    | nil => cases hl
    | cons v vs => exact ⟨v, vs, rfl, by simpa using hl, q⟩
theorem x_par (S : So c G Φ k X sc) {is : List Nat} {es : Es} {ts xs : List Expr} {kt k2 : Nat} {pt pt2 pos : Pos} (h1 : chkN c.N sc is ts = true) (hnd : is.Nodup) (hp : ∀ j ∈ pr, j ∉ is) (hk : chkEs c es sc xs = true) (hb : parB sc ts xs = true ∨ (xs.all (foldedForSure 8) = true ∧ xs.length ≤ 20)) :
    PS X (.Assign [.Tuple ts kt pt] (.Tuple xs k2 pt2) pos) (tS X.K pr (exS G Φ (.par is es))) := by
  have O := S.O
  have A := sEs es X sc xs O hk
  have hkind : X.env.scope.kind = .function := by rw [O.scope]; exact S.kind
  rcases hb with hb | ⟨hb, hl20⟩
  · unfold parB at hb
    split at hb <;> first | (cases hb; done) | skip
    · rename_i x px y py a b
      simp only [Bool.and_eq_true, Bool.not_eq_true'] at hb
      obtain ⟨⟨⟨⟨b1, b2⟩, b3⟩, b4⟩, b5⟩ := hb
      match is, h1, hnd, hp with
      | [i, j], h1, hnd, hp =>
        simp only [chkN, Bool.and_eq_true] at h1
        obtain ⟨⟨n1, _⟩, ⟨n2, _⟩, _⟩ := h1
        have hij : i ≠ j := by simpa using hnd
        have hxy : x ≠ y := fun e => hij (by
          have e1 := O.at_ n1
          have e2 := O.at_ n2
          rw [e] at e1
          exact (List.getElem?_inj (by have := (List.getElem?_eq_some_iff.mp e1).1; exact this) O.nodup).mp (e1.trans e2.symm))
        have lx : X.env.scope.names.lookup x = some .local := by rw [O.scope]; exact plain_look b1
        have ly : X.env.scope.names.lookup y = some .local := by rw [O.scope]; exact plain_look b2
        have pa : plX a = true := by cases A with | cons pl _ _ _ => exact pl
        have pb : plX b = true := by cases A with | cons _ _ _ r => cases r with | cons pl _ _ _ => exact pl
        refine PS.imp (ps_par O.calm O.nodup (O.at_ n1) (O.at_ n2) hij lx ly (a_rs A) (sw2 hkind lx ly b3 hxy pa pb b4 b5) (sole_pl rfl)) fun Dn σ H w => ?_
        obtain ⟨env, F, rs, e1, hre, h1, q⟩ := imp_par hp Dn σ H w
        refine ⟨env, F, rs, e1, hre, h1, fun vs F1 H1 re1 x1 q1 => ?_⟩
        obtain ⟨hl, _, q2⟩ := q vs F1 H1 re1 x1 q1
        match vs, hl, q2 with
        | [v, w], _, q2 => exact ⟨v, w, rfl, q2⟩
      | [], h1, _, _ => simp [chkN] at h1
      | [_], h1, _, _ => simp [chkN] at h1
      | _ :: _ :: _ :: _, h1, _, _ => simp [chkN] at h1
    · rename_i x px y py z pz a b d
      simp only [Bool.and_eq_true, Bool.not_eq_true', Bool.and_assoc] at hb
      obtain ⟨b1, b2, b2', b3, b3', b4, b5⟩ := hb
      match is, h1, hnd, hp with
      | [i, j, l], h1, hnd, hp =>
        simp only [chkN, Bool.and_eq_true] at h1
        obtain ⟨⟨n1, _⟩, ⟨n2, _⟩, ⟨n3, _⟩, _⟩ := h1
        have hij : i ≠ j ∧ i ≠ l ∧ j ≠ l := by simp at hnd; exact ⟨hnd.1.1, hnd.1.2, hnd.2⟩
        have inj : ∀ {i j : Nat} {x y : Str}, X.N[i]? = some x → X.N[j]? = some y → i ≠ j → x ≠ y := fun e1 e2 ne e => ne (by
          rw [e] at e1
          exact (List.getElem?_inj (by have := (List.getElem?_eq_some_iff.mp e1).1; exact this) O.nodup).mp (e1.trans e2.symm))
        have lx : X.env.scope.names.lookup x = some .local := by rw [O.scope]; exact plain_look b1
        have ly : X.env.scope.names.lookup y = some .local := by rw [O.scope]; exact plain_look b2
        have lz : X.env.scope.names.lookup z = some .local := by rw [O.scope]; exact plain_look b2'
        have pa : plX a = true := by cases A with | cons pl _ _ _ => exact pl
        have pb : plX b = true := by cases A with | cons _ _ _ r => cases r with | cons pl _ _ _ => exact pl
        have pd : plX d = true := by cases A with | cons _ _ _ r => cases r with | cons _ _ _ r => cases r with | cons pl _ _ _ => exact pl
        refine PS.imp (ps_par3 O.calm O.nodup (O.at_ n1) (O.at_ n2) (O.at_ n3) hij.1 hij.2.1 hij.2.2 lx ly lz (a_rs A) (sw3 hkind lx ly lz b3 b3' (inj (O.at_ n1) (O.at_ n2) hij.1) (inj (O.at_ n1) (O.at_ n3) hij.2.1) (inj (O.at_ n2) (O.at_ n3) hij.2.2) pa pb pd (by simpa [Bool.and_assoc] using b4) (by simpa [Bool.and_assoc] using b5)) (sole_pl rfl)) fun Dn σ H w => ?_
        obtain ⟨env, F, rs, e1, hre, h1, q⟩ := imp_par hp Dn σ H w
        refine ⟨env, F, rs, e1, hre, h1, fun vs F1 H1 re1 x1 q1 => ?_⟩
        obtain ⟨hl, _, q2⟩ := q vs F1 H1 re1 x1 q1
        match vs, hl, q2 with
        | [v, w, u], _, q2 => exact ⟨v, w, u, rfl, q2⟩
      | [], h1, _, _ => simp [chkN] at h1
      | [_], h1, _, _ => simp [chkN] at h1
      | [_, _], h1, _, _ => simp [chkN] at h1
      | _ :: _ :: _ :: _ :: _, h1, _, _ => simp [chkN] at h1
  · obtain ⟨_, g2, g3⟩ := g_names O S.W h1
    refine PS.imp (ps_asg (pe_tup (a_rs A)) (pg_tup O.calm (g_sets O S.W h1) g2 g3) (sole_pl rfl) (sw0 hb) rfl) fun Dn σ H w => ?_
    obtain ⟨env, F, rs, e1, hre, h1, q⟩ := imp_par hp Dn σ H w
    refine ⟨env, F, rs, e1, hre, h1, fun vs F1 H1 re1 x1 q1 => ?_⟩
    obtain ⟨hl, q2, _⟩ := q vs F1 H1 re1 x1 q1
    have e20 : vs.length ≤ sizeLine := by
      rw [RRs.length q1, evRs_len h1, ← A.length, sizeLine_eq]; omega
    exact ⟨e20, fun p hp' => ⟨p, vs, rfl, .of upd_same, hl, hl, q2 p hp'⟩⟩

/-! ### o[i] = e -/
theorem x_setI (S : So c G Φ k X sc) {i : Nat} {x : Str} {ix e : E} {ixe ex : Expr} {p1 p2 pos : Pos} (hi : isAt c.N i x = true) (hv : visB sc x = true) (hx : chkE c ix sc ixe = true) (hk : chkE c e sc ex = true) :
    PS X (.Assign [.Subscript (.Name x p1) ixe p2] ex pos) (tS X.K pr (exS G Φ (.setI i ix e))) := by
  have O := S.O
  have hN := O.at_ hi
  have pl := chk_pl hx
  refine PS.imp (ps_asg (sX e X sc ex O hk).1 (pg_sub (pe_var hN (O.vis hv) (O.dbg hN).1 (O.dbg hN).2) (sX ix X sc ixe O hx).1 set_list (by intro v; cases ixe <;> first | rfl | (cases pl; done))) (sole_pl (sw_sub (chk_pl hk))) (by unfold swappedStores; rfl) rfl) fun Dn σ H ⟨env, F, o, env', hre, hev, q⟩ => ?_
  simp only [exS, evE, Option.bind_eq_some_iff, Option.map_eq_some_iff] at hev
  obtain ⟨⟨r, e1⟩, h1, ⟨d, e2⟩, h2, hev⟩ := hev
  dsimp only at hev
  split at hev <;> first | (cases hev; done) | skip
  rename_i xs0 hg0
  simp only [Option.bind_eq_some_iff, Option.map_eq_some_iff] at hev
  obtain ⟨⟨ri, e3⟩, h3, y, h4, z, h5, e4, h6, h7⟩ := hev
  cases h7
  refine ⟨env, F, r, e1, hre, h1, fun v F1 H1 re1 x1 q1 => ?_⟩
  obtain ⟨F2, re2, x2, r2⟩ := fz_ok re1 x1 q1 h2
  -- the name's list
  have fin : ∀ vi F3 H3, RE X.K F3 H3 e3 σ → Ext e2 σ F2 H1 e3 σ F3 H3 → RR X.K H1 F3 H3 e3 σ vi ri → ∃ a, σ[i]? = some (some (.ref a)) ∧ rSetL (.ref a) vi v H3 fun H4 => Dn.nx σ H4 := by
    intro vi F3 H3 re3 x3 q3
    have ei := intD_ok (pk_ok re3 q3 h4) h5
    simp only [setL] at h6
    split at h6 <;> first | (cases h6; done) | skip
    rename_i xs hg
    simp only [Option.map_eq_some_iff] at h6
    obtain ⟨j, hj, he⟩ := h6
    subst he
    obtain ⟨a, vs, ea, hF, hH, rr⟩ := re3.cell hg
    refine ⟨a, ea, a, vs, z, j, rfl, ei, hH, by rw [← ixP_eq, ← rr.length]; exact hj, ?_⟩
    obtain ⟨re4, x4⟩ := cell_put re3 (x2.trans x3) hg ea (Reps.set (Rep.mono x3.mono d r2) j rr)
    exact q σ F3 _ re4 x4 fun _ _ => rfl
  obtain ⟨a0, _, ha0, _⟩ := re2.cell hg0
  refine ⟨.ref a0, ha0, e2, F2, ri, e3, re2, h3, fun vi F3 H3 re3 x3 q3 => ?_⟩
  obtain ⟨a, ea, w⟩ := fin vi F3 H3 re3 x3 q3
  rw [ha0] at ea; cases ea
  exact w
end
end MS

/-! Statements: in place, calls, branches, loops; every suite. -/
namespace MS
open PySem PySem.Spec PyProof.Rows L2 Mini
section
variable {c : Cfg} {G : List D} {Φ : Calls} {k : Nat} {X : Cx} {sc : Scope} {pr : List Nat}
/-! ### name op= e -/
theorem iop_mulM : OpR X (inplaceOp .Mult) (rI (fun i j => mulOk i j = true) fun i j => .int (i * j)) := opI fun _ _ _ _ _ _ _ hc q => imul_int q (mulOk_ok hc)
theorem iop_fdivM : OpR X (inplaceOp .FloorDiv) (rI (fun _ j => divOk j = true) fun i j => .int (i.fdiv j)) := opI fun i j _ _ _ _ _ hc q => ifloordiv_int (divOk_ok hc).1 q (.inl ((divOk_ok hc).2 i))
theorem iop_modM : OpR X (inplaceOp .Mod) (rI (fun _ j => j ≠ 0) fun i j => .int (i.fmod j)) := opI fun i j _ _ _ _ _ hc q => imod_int hc q
def rIn (op : Bop) : R2 := fun x y H Q => ∃ i j z, x = .int i ∧ y = .int j ∧ binop op (.int i) (.int j) = some (.val (.int z)) ∧ Q (.int z) H
theorem iop_ok {op : Bop} {o : Operator} (h : bopB op o = true) (hp : op ≠ .pow) : OpR X (inplaceOp o) (rIn op) := by
  intro pins s σ H x y v u Q I rx ry ⟨i, j, z, ex, ey, e, q⟩
  cases op <;> cases o <;> first | (cases h; done) | skip
  · cases e
    exact iop_add pins s σ H x y v u Q I rx ry ⟨i, j, ex, ey, q⟩
  · cases e
    exact iop_sub pins s σ H x y v u Q I rx ry ⟨i, j, ex, ey, q⟩
  · simp only [binop] at e
    split at e <;> cases e
    rename_i hc
    exact iop_mulM pins s σ H x y v u Q I rx ry ⟨i, j, ex, ey, hc, q⟩
  · simp only [binop] at e
    split at e <;> cases e
    rename_i hc
    exact iop_fdivM pins s σ H x y v u Q I rx ry ⟨i, j, ex, ey, hc, q⟩
  · simp only [binop] at e
    split at e <;> cases e
    rename_i hc
    exact iop_modM pins s σ H x y v u Q I rx ry ⟨i, j, ex, ey, hc, q⟩
  · exact absurd rfl hp
theorem binI_int {op : Bop} {x y : D} {r : RV} (h : Mini.binI op x y = some r) : (∃ i j z, x = .int i ∧ y = .int j ∧ r = .val (.int z) ∧ binop op (.int i) (.int j) = some (.val (.int z))) ∨ (op = .add ∧ ∃ p q, x = .tup p ∧ y = .tup q ∧ binop .add (.tup p) (.tup q) = some r) := by
  unfold Mini.binI at h
  split at h
  · rename_i i j
    refine .inl ?_
    cases op <;> simp only [binop] at h
    · cases h; exact ⟨i, j, _, rfl, rfl, rfl, rfl⟩
    · cases h; exact ⟨i, j, _, rfl, rfl, rfl, rfl⟩
    all_goals (split at h <;> cases h; rename_i hc; exact ⟨i, j, _, rfl, rfl, rfl, by simp only [binop]; rw [if_pos hc]⟩)
  · exact .inr ⟨rfl, _, _, rfl, rfl, h⟩
  · cases h
theorem noI_tuple_add : typeLookup (.type "tuple") (dunderI "add") = pure none := by rw [typeLookup_type, builtinLookup_eq_fast]; kernel_rfl
section
open HT
variable {prog : Program} {w : World} {A : Around} {E : Value → Shared → Prop} {s : Shared}
theorem icat_tup0 {t b : Addr} {ws : List Value} {Q : Value → Shared → Prop} (ht : IsTup s.heap t ([] : List Value).toArray) (hb : IsTup s.heap b ws.toArray) (h : Q (.ref b) s) : wpAny (model prog w) A (inplaceOp .Add (.ref t) (.ref b)) Q E s := by
  obtain ⟨⟨cls, dd, data, sl⟩, ho, hc, n, hd⟩ := id ht
  obtain ⟨⟨cls2, dd2, data2, sl2⟩, ho2, hc2, n2, hd2⟩ := id hb
  simp only at hc hd hc2 hd2
  subst hc hd hc2 hd2
  exact wpAny_inplaceOp_concat ⟨_, ho, rfl⟩ ⟨_, ho2, rfl⟩ noI_tuple_add noFill_tuple_add seq_tuple_add (call_meets PySem.F.slot_tuple_add ⟨_, ho, rfl⟩ PySem.F.entry_tuple_add (PySem.F.args_tuple_add_2 _ _)
    (tuple_addW0 t b ([] : List Value).toArray ws.toArray n n2 dd dd2 sl sl2 (by simp)) ⟨ho, ho2, h⟩)
theorem icat_tup {t b : Addr} {vs ws : List Value} {Q : Value → Shared → Prop} (ht : IsTup s.heap t vs.toArray) (hb : IsTup s.heap b ws.toArray) (hv : vs ≠ [])
    (h1 : ws = [] → Q (.ref t) s) (h2 : ws ≠ [] → Q (.ref s.heap.objs.size) { s with heap := s.heap.push { cls := .type "tuple", data := .seq (vs ++ ws).toArray } })
    (hsz : vs.length + ws.length ≤ sizeLine) : wpAny (model prog w) A (inplaceOp .Add (.ref t) (.ref b)) Q E s := by
  obtain ⟨⟨cls, dd, data, sl⟩, ho, hc, n, hd⟩ := id ht
  obtain ⟨⟨cls2, dd2, data2, sl2⟩, ho2, hc2, n2, hd2⟩ := id hb
  simp only at hc hd hc2 hd2
  subst hc hd hc2 hd2
  have e : vs.toArray ++ ws.toArray = (vs ++ ws).toArray := by simp
  by_cases hw : ws = []
  · exact wpAny_inplaceOp_concat ⟨_, ho, rfl⟩ ⟨_, ho2, rfl⟩ noI_tuple_add noFill_tuple_add seq_tuple_add (call_meets PySem.F.slot_tuple_add ⟨_, ho, rfl⟩ PySem.F.entry_tuple_add (PySem.F.args_tuple_add_2 _ _)
      (tuple_addW1 t b vs.toArray ws.toArray n n2 dd dd2 sl sl2 (by simpa using hv) (by simp [hw])) ⟨ho, ho2, h1 hw⟩)
  · refine wpAny_inplaceOp_concat ⟨_, ho, rfl⟩ ⟨_, ho2, rfl⟩ noI_tuple_add noFill_tuple_add seq_tuple_add (call_meets PySem.F.slot_tuple_add ⟨_, ho, rfl⟩ PySem.F.entry_tuple_add (PySem.F.args_tuple_add_2 _ _)
      (tuple_addW2 t b vs.toArray ws.toArray n n2 dd dd2 sl sl2 (by simpa using hv) (by simpa using hw) (by rw [List.size_toArray, List.size_toArray]; exact hsz)) ⟨ho, ho2, ?_⟩)
    rw [e]
    exact h2 hw
end
theorem iop_catA : OpR X (inplaceOp .Add) (rCatA X.K) := by
  intro pins s σ H x y v u Q I rx ry h
  obtain ⟨a, b, xs, ys, rfl, rfl, ha, hb, hz, q0, q1, q2⟩ := h
  cases rx
  cases ry
  obtain ⟨its, r1, p1, _⟩ := I.tuple ha
  obtain ⟨its2, r2, p2, _⟩ := I.tuple hb
  by_cases hx : xs = []
  · subst hx
    cases r1
    exact icat_tup0 p1 p2 ⟨.ref b, H, I, rfl, q0 rfl⟩
  · refine icat_tup p1 p2 (fun z => hx (r1.nil_iff.mp z)) (fun z => ⟨.ref a, H, I, rfl, q1 hx (r2.nil_iff.mp z)⟩) (fun z => ?_) (by rw [← r1.length, ← r2.length]; exact hz)
    refine ⟨.ref s.heap.objs.size, _, I.laid (t' := s.toks) (o := .tup (xs ++ ys)) (fun b ob q => Heap.get?_push_of_some _ q) (Nat.le_refl _) ?_, rfl, q2 hx (fun w => z (r2.nil_iff.mpr w)) _ (I.hok.fresh (Nat.le_refl _))⟩
    exact ⟨by rw [List.length_append]; exact hz, _, r1.append r2, IsTup.new _ _⟩
def tupB (x y : D) : Option RV := match x, y with
  | .tup p, .tup q => binop .add (.tup p) (.tup q)
  | _, _ => none
theorem iop_tupB : OpR X (inplaceOp .Add) (rB2 X.K tupB) := by
  intro pins s σ H x y v u Q I rx ry ⟨F, a, b, r, sF, ha, hb, e, k⟩
  cases a <;> cases b <;> first | (cases e; done) | skip
  rename_i p q
  simp only [tupB, binop] at e
  split at e
  · rename_i hz
    cases e
    obtain ⟨a1, vs, rfl, h1, r1⟩ := tupR ha
    obtain ⟨a2, ws, rfl, h2, r2⟩ := tupR hb
    have l1 := r1.length
    have l2 := r2.length
    refine iop_catA pins s σ H _ _ v u Q I rx ry ⟨a1, a2, vs, ws, rfl, rfl, sqT_mono sF h1, sqT_mono sF h2, by rw [← l1, ← l2, ← LIM_eq]; exact hz, fun z => ?_, fun z1 z2 => ?_, fun z1 z2 p' hp => ?_⟩
    · subst z
      have e0 : p = [] := List.eq_nil_of_length_eq_zero (by simpa using l1)
      subst e0
      exact k _ _ _ (.flat sF ⟨a2, ws, rfl, h2, r2⟩)
    · subst z2
      have e0 : q = [] := List.eq_nil_of_length_eq_zero (by simpa using l2)
      subst e0
      exact k _ _ _ (.flat sF ⟨a1, vs, rfl, h1, by rw [List.append_nil]; exact r1⟩)
    · exact k _ _ _ (.tup sF hp (r1.app r2))
  · cases e
theorem set_self {σ : L2.St} {i : Nat} {x : Option V} (h : σ[i]? = some x) : σ.set i x = σ := by
  obtain ⟨hi, e⟩ := List.getElem?_eq_some_iff.mp h
  subst e
  exact List.set_getElem_self hi
theorem x_aug (S : So c G Φ k X sc) {op : Bop} {o : Operator} {i : Nat} {x : Str} {e : E} {ex : Expr} {p1 pos : Pos} (ho : bopB op o = true) (hp' : op ≠ .pow) (hi : isAt c.N i x = true) (hl : locB sc x = true) (hp : ∀ j ∈ pr, j ≠ i) (hk : chkE c e sc ex = true) :
    PS X (.AugAssign (.Name x p1) o ex pos) (tS X.K pr (exS G Φ (.aug op i e))) := by
  have O := S.O
  have he := (sX e X sc ex O hk).1
  have w := S.W.st x hl
  have hip : PIp X o (fun x y H Q => rIn op x y H Q ∨ (o = .Add ∧ rExt2 x y H Q) ∨ (o = .Add ∧ rB2 X.K tupB x y H Q)) := by
    intro pins s σ H x y v u Q I rx ry q
    rcases q with q | ⟨rfl, q⟩ | ⟨rfl, q⟩
    · exact iop_ok ho hp' pins s σ H x y v u Q I rx ry q
    · exact iop_ext pins s σ H x y v u Q I rx ry q
    · exact iop_tupB pins s σ H x y v u Q I rx ry q
  refine PS.imp (ps_aug O.nodup (O.at_ hi) w.1 he hip w.2) fun Dn σ H ⟨env, F, o, env', hre, hev, q⟩ => ?_
  simp only [exS] at hev
  split at hev <;> first | (cases hev; done) | skip
  · rename_i d hg
    simp only [evE, Option.bind_eq_some_iff, Option.map_eq_some_iff] at hev
    obtain ⟨⟨r, e1⟩, h1, y, h2, r', h3, env2, h4, h5⟩ := hev
    cases h5
    obtain ⟨v, ev, rv⟩ := hre.val hg
    rcases binI_int h3 with ⟨a, b, z, rfl, rfl, rfl, hz⟩ | ⟨rfl, p, q', rfl, rfl, hz⟩
    rotate_left
    · refine ⟨v, ev, env, F, r, e1, hre, h1, fun v1 F1 H1 re1 x1 q1 => .inr (.inr ⟨?_, F1, .tup p, .tup q', r', re1.sub, Rep.mono x1.mono _ rv, pk_ok re1 q1 h2, hz, fun w F2 H2 bo => ?_⟩)⟩
      · cases o <;> first | rfl | cases ho
      · obtain ⟨re2, x2, q2⟩ := bo.go re1
        obtain ⟨F3, re3, x3⟩ := bindR2 re2 (x1.trans x2) i (MS.back q2 x1) h4
        exact q _ F3 H2 re3 x3 (set_ne hp)
    refine ⟨v, ev, env, F, r, e1, hre, h1, fun v1 F1 H1 re1 x1 q1 => .inl ⟨a, b, z, rv, pk_ok re1 q1 h2, hz, ?_⟩⟩
    obtain ⟨F2, re2, x2⟩ := bindR2 re1 x1 i (v := .int z) (r := .val (.int z)) rfl h4
    exact q _ F2 H1 re2 x2 (set_ne hp)
  · rename_i xs0 hg
    simp only [evE, Option.bind_eq_some_iff] at hev
    obtain ⟨⟨r, e1⟩, h1, y, h2, h3⟩ := hev
    dsimp only at h3
    split at h3 <;> first | (cases h3; done) | skip
    rename_i xs ys hg1 _
    simp only [Option.map_eq_some_iff] at h3
    obtain ⟨zs, h4, h5⟩ := h3
    cases h5
    obtain ⟨rfl, hlim⟩ := lim_ok h4
    obtain ⟨a, vs, ea, _⟩ := hre.cell hg
    refine ⟨.ref a, ea, env, F, r, e1, hre, h1, fun v1 F1 H1 re1 x1 q1 => .inr (.inl ⟨?_, ?_⟩)⟩
    · cases o <;> first | rfl | cases ho
    · obtain ⟨a', vs', ea', hF, hH, rr⟩ := re1.cell hg1
      rw [ea] at ea'; cases ea'
      obtain ⟨b, ws, eb, hb, rb⟩ := pk_ok re1 q1 h2
      have hl1 := rr.length
      have hl2 := rb.length
      refine ⟨a, b, vs', ws, rfl, eb, hH, hb, by rw [List.length_append] at hlim; omega, ?_⟩
      obtain ⟨re2, x2⟩ := cell_put re1 x1 hg1 ea (rr.app rb)
      rw [set_self ea]
      exact q σ F1 _ re2 x2 fun _ _ => rfl

/-! ### append, reverse -/
theorem x_app (S : So c G Φ k X sc) {i : Nat} {x : Str} {e : E} {ex : Expr} {p1 ap p pos : Pos} (hi : isAt c.N i x = true) (hv : visB sc x = true) (hl : (ap.endLine == p.line) = true) (hk : chkE c e sc ex = true) :
    PS X (.Expr (.Call (.Attribute (.Name x p1) "append" ap) [ex] [] p) pos) (tS X.K pr (exS G Φ (.app i e))) := by
  have O := S.O
  have hN := O.at_ hi
  have he := (sX e X sc ex O hk).1
  have pl := chk_pl hk
  refine PS.imp (ps_expr (pe_bm PySem.F.plainAttrs_list PySem.F.slot_list_append PySem.F.type_list_append mt_append (pe_var hN (O.vis hv) (O.dbg hN).1 (O.dbg hN).2) (pa_cons he pa_nil (star_pl pl)) rfl (by rw [star_pl pl]; rfl) hl (star_pl pl) rfl)) fun Dn σ H ⟨env, F, o, env', hre, hev, q⟩ => ?_
  simp only [exS] at hev
  split at hev <;> first | (cases hev; done) | skip
  rename_i xs0 hg
  simp only [evE, Option.bind_eq_some_iff, Option.map_eq_some_iff] at hev
  obtain ⟨⟨r, e1⟩, h1, ⟨d, e2⟩, h2, e3, h3, h4⟩ := hev
  cases h4
  obtain ⟨a, vs, ea, _, hH, _⟩ := hre.cell hg
  refine ⟨.ref a, ea, .inl ⟨rfl, vs, .of hH⟩, env, F, r, e1, hre, h1, fun v1 F1 H1 re1 x1 q1 => ?_⟩
  obtain ⟨F2, re2, x2, r2⟩ := fz_ok re1 x1 q1 h2
  simp only [appL] at h3
  split at h3 <;> first | (cases h3; done) | skip
  rename_i xs hg2
  split at h3 <;> cases h3
  rename_i hlim
  obtain ⟨a', vs', ea', hF, hH', rr⟩ := re2.cell hg2
  rw [ea] at ea'; cases ea'
  refine ⟨a, vs', v1, rfl, rfl, hH', by rw [← rr.length, ← LIM_eq]; exact hlim, ?_⟩
  obtain ⟨re3, x3⟩ := cell_put re2 x2 hg2 ea (rr.app (.one r2))
  exact q σ F2 _ re3 x3 fun _ _ => rfl
theorem x_revI (S : So c G Φ k X sc) {i : Nat} {x : Str} {p1 ap p pos : Pos} (hi : isAt c.N i x = true) (hv : visB sc x = true) (hl : (ap.endLine == p.line) = true) :
    PS X (.Expr (.Call (.Attribute (.Name x p1) "reverse" ap) [] [] p) pos) (tS X.K pr (exS G Φ (.revI i))) := by
  have O := S.O
  have hN := O.at_ hi
  refine PS.imp (ps_expr (pe_bm0 PySem.F.plainAttrs_list PySem.F.slot_list_reverse PySem.F.type_list_reverse mt_reverse (pe_var hN (O.vis hv) (O.dbg hN).1 (O.dbg hN).2) rfl hl)) fun Dn σ H ⟨env, F, o, env', hre, hev, q⟩ => ?_
  simp only [exS] at hev
  split at hev <;> cases hev
  rename_i xs hg
  obtain ⟨a, vs, ea, hF, hH, rr⟩ := hre.cell hg
  refine ⟨.ref a, ea, .inl ⟨rfl, vs, .of hH⟩, a, vs, rfl, rfl, hH, ?_⟩
  obtain ⟨re3, x3⟩ := cell_put hre .refl hg ea rr.rev
  exact q σ F _ re3 x3 fun _ _ => rfl
theorem x_expr (S : So c G Φ k X sc) {e : E} {ex : Expr} {pos : Pos} (hk : chkE c e sc ex = true) (hn : isLC ex = false) : PS X (.Expr ex pos) (tS X.K pr (exS G Φ (.expr e))) := by
  refine PS.imp (ps_expr (sX e X sc ex S.O hk).1 (sw_pl hn (chk_pl hk))) fun Dn σ H ⟨env, F, o, env', hre, hev, q⟩ => ?_
  simp only [exS, evE, Option.map_eq_some_iff] at hev
  obtain ⟨⟨r, e1⟩, h1, h2⟩ := hev
  cases h2
  exact ⟨env, F, r, e1, hre, h1, fun v F1 H1 re1 x1 q1 => q σ F1 H1 re1 x1 fun _ _ => rfl⟩
theorem x_ret (S : So c G Φ k X sc) {e : E} {ex : Expr} {pos : Pos} (hk : chkE c e sc ex = true) : PS X (.Return (some ex) pos) (tS X.K pr (exS G Φ (.ret e))) := by
  refine PS.imp (ps_ret (sX e X sc ex S.O hk).1) fun Dn σ H ⟨env, F, o, env', hre, hev, q⟩ => ?_
  simp only [exS, evE, Option.map_eq_some_iff] at hev
  obtain ⟨⟨r, e1⟩, h1, h2⟩ := hev
  cases h2
  exact ⟨env, F, r, e1, hre, h1, fun v F1 H1 re1 x1 q1 => q v σ F1 H1 re1 x1 (fun _ _ => rfl) q1⟩
theorem x_retN {pos : Pos} : PS X (.Return none pos) (tS X.K pr (exS G Φ .retN)) := by
  refine PS.imp ps_retN fun Dn σ H ⟨env, F, o, env', hre, hev, q⟩ => ?_
  simp only [exS] at hev
  cases hev
  exact q .non σ F H hre .refl (fun _ _ => rfl) rfl
theorem x_brk {pos : Pos} : PS X (.Break pos) (tS X.K pr (exS G Φ .brk)) := by
  refine PS.imp ps_break fun Dn σ H ⟨env, F, o, env', hre, hev, q⟩ => ?_
  simp only [exS] at hev
  cases hev
  exact q σ F H hre .refl fun _ _ => rfl
theorem x_pass {pos : Pos} : PS X (.Pass pos) (tS X.K pr (exS G Φ .pass)) := by
  refine PS.imp ps_pass fun Dn σ H ⟨env, F, o, env', hre, hev, q⟩ => ?_
  simp only [exS] at hev
  cases hev
  exact q σ F H hre .refl fun _ _ => rfl

/-! ### branches, loops -/
theorem x_if (S : So c G Φ k X sc) {d : E} {a b : Ss} {t : Expr} {xs ys : List Stmt} {pos : Pos} (ho : okT d = true) (hk : chkE c d sc t = true) (ha : PSs X xs (tS X.K pr (exSs G Φ a))) (hb : PSs X ys (tS X.K pr (exSs G Φ b))) : PS X (.If t xs ys pos) (tS X.K pr (exS G Φ (.ite d a b))) := by
  refine PS.imp (ps_if ((sX d X sc t S.O hk).2 ho) ha hb) fun Dn σ H ⟨env, F, o, env', hre, hev, q⟩ => ?_
  simp only [exS, evT, Option.bind_eq_some_iff] at hev
  obtain ⟨⟨k1, e1⟩, h1, h2⟩ := hev
  refine ⟨env, F, k1, e1, hre, h1, fun F1 H1 re1 x1 => ?_⟩
  cases k1 with
  | true => exact ⟨e1, F1, o, env', re1, h2, q.from x1 fun _ _ => rfl⟩
  | false => exact ⟨e1, F1, o, env', re1, h2, q.from x1 fun _ _ => rfl⟩
theorem x_while (S : So c G Φ k X sc) {d : E} {b : Ss} {t : Expr} {body : List Stmt} {pos : Pos} (ho : okT d = true) (hk : chkE c d sc t = true) (hb : PSs X body (tS X.K pr (exSs G Φ b))) : PS X (.While t body [] pos) (tS X.K pr (exS G Φ (.while d b))) := by
  refine PS.imp (ps_while S.hp ((sX d X sc t S.O hk).2 ho) hb) fun Dn σ H ⟨env, F, o, env', hre, hev, q⟩ => ?_
  simp only [exS] at hev
  refine ⟨fun m σ' H' => ∃ e F', RE X.K F' H' e σ' ∧ Ext env σ F H e σ' F' H' ∧ (∀ i ∈ pr, σ'[i]? = σ[i]?) ∧ whL (evT G Φ d) (exSs G Φ b) m e = some (o, env'), ⟨W0, env, F, hre, .refl, fun _ _ => rfl, hev⟩, ?_⟩
  rintro m σ1 H1 ⟨e1, F1, re1, x1, a1, w⟩
  cases m with
  | zero => cases w
  | succ m =>
    rw [whL] at w
    simp only [Option.bind_eq_some_iff] at w
    obtain ⟨⟨k1, e2⟩, h1, h2⟩ := w
    refine ⟨e1, F1, k1, e2, re1, h1, fun F2 H2 re2 x2 => ?_⟩
    cases k1 with
    | false =>
      simp only [Bool.false_eq_true, if_false] at h2 ⊢
      cases h2
      exact q σ1 F2 H2 re2 (x1.trans x2) a1
    | true =>
      simp only [if_true, Option.bind_eq_some_iff] at h2 ⊢
      obtain ⟨⟨o1, e3⟩, h3, h4⟩ := h2
      refine ⟨fun σ' H' => ∃ e F', RE X.K F' H' e σ' ∧ Ext env σ F H e σ' F' H' ∧ (∀ i ∈ pr, σ'[i]? = σ[i]?) ∧ whL (evT G Φ d) (exSs G Φ b) m e = some (o, env'), fun σ' H' w => ⟨m, Nat.lt_succ_self m, w⟩, e2, F2, o1, e3, re2, h3, ?_⟩
      have x12 := x1.trans x2
      cases o1 with
      | next => exact fun σ3 F3 H3 re3 x3 a3 => ⟨e3, F3, re3, x12.trans x3, fun i hi => (a3 i hi).trans (a1 i hi), h4⟩
      | brk =>
        cases h4
        exact fun σ3 F3 H3 re3 x3 a3 => q σ3 F3 H3 re3 (x12.trans x3) fun i hi => (a3 i hi).trans (a1 i hi)
      | ret r =>
        cases h4
        exact fun v σ3 F3 H3 re3 x3 a3 q3 => q v σ3 F3 H3 re3 (x12.trans x3) (fun i hi => (a3 i hi).trans (a1 i hi)) (back2 q3 x12)
theorem x_for (S : So c G Φ k X sc) {t : T} {it : E} {b : Ss} {tg iter : Expr} {body : List Stmt} {pos : Pos} (ht : chkTg c.N sc t tg = true) (hp : ∀ j ∈ pr, j ∉ tSl t) (hk : chkE c it sc iter = true ∨ chkR c it sc iter = true) (hb : PSs X body (tS X.K pr (exSs G Φ b))) : PS X (.For tg iter body [] pos) (tS X.K pr (exS G Φ (.for t it b))) := by
  have O := S.O
  have pi : plX iter = true := hk.elim chk_pl rng_pl
  have hi : PI X tg iter (tI X.K G Φ it) := by
    rcases hk with h4 | h4
    · exact i_of (sX it X sc _ O h4).1
    · cases it <;> first | (unfold chkR at h4; cases h4; done) | skip
      rename_i es
      obtain ⟨y, xs', p, pos, rfl, hy, hgy, h0, h3', s⟩ := sRs (.rng es) X sc _ O h4 es rfl
      exact i_rng O hy hgy h0 h3' s
  refine PS.imp (ps_for S.hp O.calm hi (g_tg O S.W ht) hb (noFold_pl pi)) fun Dn σ H ⟨env, F, o, env', hre, hev, q⟩ => ?_
  simp only [exS, evIt, Option.bind_eq_some_iff, Option.map_eq_some_iff] at hev
  obtain ⟨⟨xs, env1, lk⟩, ⟨⟨r, e1⟩, h1, h2⟩, ⟨o', e2⟩, h3, h4⟩ := hev
  cases h4
  refine ⟨env, F, r, e1, xs, env1, lk, hre, h1, h2, fun J F1 H1 re1 x1 re2 x2 ⟨Gd, Yd, wk, hG, hY⟩ hlk => ?_⟩
  -- the ends, seen from the loop's start
  have base : ∀ {σ3 : L2.St} {F3 H3 : Hp} {e3 : Mini.Env}, RE X.K F3 H3 e3 σ3 → Ext env1 σ F1 H1 e3 σ3 F3 H3 → RE X.K F3 H3 (unlock e3 lk) σ3 ∧ Ext env σ F H (unlock e3 lk) σ3 F3 H3 := fun re3 x3 => by
    obtain ⟨a, b⟩ := unlock_ok re3 (x2.trans x3) hlk
    exact ⟨a, x1.trans b⟩
  refine for_it wk (fun i σ' H' => ∃ e F', RE X.K F' H' e σ' ∧ Ext env1 σ F1 H1 e σ' F' H' ∧ (∀ j ∈ pr, σ'[j]? = σ[j]?) ∧ forL (fun x e => (bindT e t x).bind fun e => exSs G Φ b e) (xs.drop i) e = some (o', e2)) ?_ ?_ ?_ ?_
  · exact ⟨env1, F1, re2, .refl, fun _ _ => rfl, h3⟩
  · rintro i σ' H' hi ⟨e, F', re, x, _, _⟩
    exact hG _ _ _ _ re x
  · rintro i x σ' H' H'' hi ⟨e, F', re, x3, a3, w⟩ y
    obtain ⟨rfl, hy⟩ := hY i H' x H'' hi y
    obtain ⟨d, hd1, hd2⟩ := hy F' x3.mono
    have hdrop : xs.drop i = d :: xs.drop (i + 1) := by
      rw [List.drop_eq_getElem_cons hi]
      rw [List.getElem?_eq_getElem hi] at hd1
      rw [Option.some.inj hd1]
    rw [hdrop, forL] at w
    simp only [Option.bind_eq_some_iff] at w
    obtain ⟨⟨o1, e4⟩, ⟨e3, hb3, hb4⟩, w⟩ := w
    refine ⟨e, F', d, e3, re, hd2, hb3, fun σ2 re3 tr ag ln => ⟨e3, F', o1, e4, re3, hb4, ?_⟩⟩
    have x4 : Ext env1 σ F1 H1 e3 σ2 F' H'' := tr _ _ _ _ x3
    have a4 : ∀ j ∈ pr, σ2[j]? = σ[j]? := fun j hj => (ag j (hp j hj)).trans (a3 j hj)
    cases o1 with
    | next => exact fun σ5 F5 H5 re5 x5 a5 => ⟨e4, F5, re5, x4.trans x5, fun j hj => (a5 j hj).trans (a4 j hj), w⟩
    | brk =>
      cases w
      refine fun σ5 F5 H5 re5 x5 a5 => ?_
      obtain ⟨re6, x6⟩ := base re5 (x4.trans x5)
      exact q σ5 F5 H5 re6 x6 fun j hj => (a5 j hj).trans (a4 j hj)
    | ret r =>
      cases w
      refine fun v σ5 F5 H5 re5 x5 a5 q5 => ?_
      obtain ⟨re6, x6⟩ := base re5 (x4.trans x5)
      refine q v σ5 F5 H5 re6 x6 (fun j hj => (a5 j hj).trans (a4 j hj)) ?_
      have q6 := back2 q5 (x1.trans (x2.trans x4))
      cases r with
      | val d => exact q6
      | ref i => exact q6
      | own ds =>
        obtain ⟨a, ws, e, e0, f, hh, rr, no⟩ := q6
        exact ⟨a, ws, e, e0, f, hh, rr, fun i z => no i (unlock_own z)⟩
  · rintro σ' H' ⟨e, F', re, x3, a3, w⟩
    rw [List.drop_length, forL] at w
    cases w
    obtain ⟨re6, x6⟩ := base re x3
    exact q σ' F' H' re6 x6 a3
end

/-! ### every suite -/
section
variable {c : Cfg} {G : List D} {Φ : Calls} {k : Nat} {X : Cx} {sc : Scope} {pr : List Nat}
mutual
theorem sS (S : So c G Φ k X sc) : ∀ (s : Mini.S) (st : Stmt), chkS c pr sc s st = true → PS X st (tS X.K pr (exS G Φ s))
  | .asg i e, st, h => by
    unfold chkS at h; split at h <;> first | (cases h; done) | skip
    simp only [Bool.and_eq_true] at h
    exact x_asg S h.1.1.1 h.1.1.2 (not_in h.1.2) h.2
  | .asgT is e, st, h => by
    unfold chkS at h; split at h <;> first | (cases h; done) | skip
    simp only [Bool.and_eq_true, Bool.not_eq_true'] at h
    exact x_asgT S h.1.1.1.1 h.1.1.1.2 (disj_ok h.1.1.2) h.1.2 h.2
  | .par is es, st, h => by
    unfold chkS at h; split at h <;> first | (cases h; done) | skip
    simp only [Bool.and_eq_true, Bool.or_eq_true, decide_eq_true_eq] at h
    exact x_par S h.1.1.1.1 h.1.1.1.2 (disj_ok h.1.1.2) h.1.2 h.2
  | .setI i ix e, st, h => by
    unfold chkS at h; split at h <;> first | (cases h; done) | skip
    simp only [Bool.and_eq_true] at h
    exact x_setI S h.1.1.1 h.1.1.2 h.1.2 h.2
  | .aug op i e, st, h => by
    unfold chkS at h; split at h <;> first | (cases h; done) | skip
    simp only [Bool.and_eq_true, decide_eq_true_eq] at h
    exact x_aug S h.1.1.1.1.1 h.1.1.1.1.2 h.1.1.1.2 h.1.1.2 (not_in h.1.2) h.2
  | .augI _ _ _ _, st, h => by unfold chkS at h; cases h
  | .app i e, st, h => by
    unfold chkS at h; split at h <;> first | (cases h; done) | skip
    simp only [Bool.and_eq_true, decide_eq_true_eq] at h
    obtain ⟨⟨⟨⟨h1, h2⟩, rfl⟩, h4⟩, h5⟩ := h
    exact x_app S h1 h2 h4 h5
  | .revI i, st, h => by
    unfold chkS at h; split at h <;> first | (cases h; done) | skip
    simp only [Bool.and_eq_true, decide_eq_true_eq] at h
    obtain ⟨⟨⟨h1, h2⟩, rfl⟩, h4⟩ := h
    exact x_revI S h1 h2 h4
  | .expr e, st, h => by
    unfold chkS at h; split at h <;> first | (cases h; done) | skip
    simp only [Bool.and_eq_true, Bool.not_eq_true'] at h
    exact x_expr S h.1 h.2
  | .ret e, st, h => by
    unfold chkS at h; split at h <;> first | (cases h; done) | skip
    exact x_ret S h
  | .retN, st, h => by
    unfold chkS at h; split at h <;> first | (cases h; done) | skip
    exact x_retN
  | .ite d a b, st, h => by
    unfold chkS at h; split at h <;> first | (cases h; done) | skip
    simp only [Bool.and_eq_true] at h
    exact x_if S h.1.1.1 h.1.1.2 (sSs S a _ h.1.2) (sSs S b _ h.2)
  | .for t it b, st, h => by
    unfold chkS at h; split at h <;> first | (cases h; done) | skip
    simp only [Bool.and_eq_true, Bool.or_eq_true] at h
    exact x_for S h.1.1.1 (disj_ok h.1.1.2) h.1.2 (sSs S b _ h.2)
  | .while d b, st, h => by
    unfold chkS at h; split at h <;> first | (cases h; done) | skip
    simp only [Bool.and_eq_true] at h
    exact x_while S h.1.1 h.1.2 (sSs S b _ h.2)
  | .brk, st, h => by
    unfold chkS at h; split at h <;> first | (cases h; done) | skip
    exact x_brk
  | .pass, st, h => by
    unfold chkS at h; split at h <;> first | (cases h; done) | skip
    exact x_pass
  | .kill _, st, h => by unfold chkS at h; cases h
theorem sSs (S : So c G Φ k X sc) : ∀ (ss : Ss) (sts : List Stmt), chkSs c pr sc ss sts = true → PSs X sts (tS X.K pr (exSs G Φ ss))
  | .nil, sts, h => by
    unfold chkSs at h
    cases sts with
    | cons => cases h
    | nil =>
      refine PSs.imp pss_nil fun Dn σ H ⟨env, F, o, env', hre, hev, q⟩ => ?_
      simp only [exSs] at hev
      cases hev
      exact q σ F H hre .refl fun _ _ => rfl
  | .cons s ss, sts, h => by
    unfold chkSs at h
    split at h
    · rename_i ks
      refine PSs.imp (sSs S ss sts h) fun Dn σ H ⟨env, F, o, env', hre, hev, q⟩ => ?_
      simp only [exSs, exS, Option.bind_some] at hev
      obtain ⟨re1, x1⟩ := wipe_ok (is := ks) hre .refl
      exact ⟨_, F, o, env', re1, hev, q.from x1 fun _ _ => rfl⟩
    · split at h
      · rename_i st sts'
        simp only [Bool.and_eq_true] at h
        refine PSs.imp (pss_cons (sS S s st h.1) (sSs S ss sts' h.2)) fun Dn σ H ⟨env, F, o, env', hre, hev, q⟩ => ?_
        simp only [exSs, Option.bind_eq_some_iff] at hev
        obtain ⟨⟨o1, e1⟩, h1, h2⟩ := hev
        refine ⟨env, F, o1, e1, hre, h1, ?_⟩
        cases o1 with
        | next => exact fun σ1 F1 H1 re1 x1 a1 => ⟨e1, F1, o, env', re1, h2, q.from x1 a1⟩
        | brk =>
          cases h2
          exact fun σ1 F1 H1 re1 x1 a1 => q σ1 F1 H1 re1 x1 a1
        | ret r =>
          cases h2
          exact fun v σ1 F1 H1 re1 x1 a1 q1 => q v σ1 F1 H1 re1 x1 a1 q1
      · cases h
end
end
end MS

/-! Defs. -/
namespace MS
open PySem PySem.Spec PyProof.Rows L2 Mini
/-- the parameters that keep their values -/
def prot (fn : Fn) : List Nat := (List.range fn.np).filter fun i => !fn.asgd.contains i
def nmOk (x : Str) : Bool := !(x == ("__debug__" : Str)) && !(x == ("__classdict__" : Str))
/-- the look at a def -/
def chkF (FT GT : List Str) (gcd : Bool) (N : List Str) (fn : Fn) (st : Stmt) : Bool :=
  let sc := defScope st
  decide (sc.kind = .function) && !sc.isCoroutine && !sc.isGenerator && decide N.Nodup && decide (fn.np ≤ N.length) && decide (fn.ns = N.length) && (N.take fn.np).all (fun x => locB sc x) && sc.names.all (fun y => !decide (y.2 = .free)) && N.all nmOk &&
    chkSs ⟨N, FT, GT, gcd⟩ (prot fn) sc fn.body (defBody st)
section
variable {P : Program} {w : World} {K : Frag} {mg : Str → Option Value} {base : Heap} {FT GT : List Str} {gcd : Bool} {G : List D}
/-- what the top has written -/
structure Wd (K : Frag) (mg : Str → Option Value) (FT GT : List Str) (gcd : Bool) (G : List D) : Prop where
  bi : ∀ x ∈ biNames, mg x = none
  gcd : gcd = true → mg "gcd" = some (.builtin "math.gcd")
  cs : ∀ (i : Nat) (x : Str) (d : D), GT[i]? = some x → G[i]? = some d → ∃ u v, mg x = some u ∧ RelV v u ∧ Rep K (fun _ => none) d v ∧ (x == ("__debug__" : Str)) = false
theorem get_out {env : Mini.Env} {n i : Nat} {asgd : List Nat} : Mini.get (outB n asgd env) i = if i < n then (if i ∈ asgd then .no else Mini.get env i) else .no := by
  unfold outB
  by_cases hi : i < n
  · rw [if_pos hi]
    show List.getD _ i B.no = _
    rw [List.getD_eq_getElem?_getD, List.getElem?_map, List.getElem?_range hi]
    by_cases ha : i ∈ asgd
    · simp [ha]
    · simp [ha]
  · rw [if_neg hi]
    show List.getD _ i B.no = _
    rw [List.getD_eq_getElem?_getD, List.getElem?_eq_none (by rw [List.length_map, List.length_range]; omega)]
    rfl
/-- a def's promise -/
theorem fn_ok {k : Nat} {x : Str} {st : Stmt} {f : Addr} {fd : FuncData} {N : List Str} {fn : Fn} {Φ Ψ : Calls} {i : Nat} (W : Wd K mg FT GT gcd G) (F : L2.Fun K x x st f fd) (h : chkF FT GT gcd N fn st = true)
    (hf : ∀ (f : Nat) (x : Str), FT[f]? = some x → ∃ a fd ps, mg x = some (.ref a) ∧ PySem.W.keepIn K (.ref a) = true ∧ Binds K fd ps [] ∧ FnOk P w K mg base CX0 k a fd ps (spF K Φ f) ∧ (x == ("__debug__" : Str)) = false)
    (hi : ∀ bs, Ψ i bs = runFn G Φ fn bs) : FnOk P w K mg base CX0 (k + 1) f fd (N.take fn.np) (spF K Ψ i) := by
  unfold chkF at h
  simp only [Bool.and_eq_true, Bool.not_eq_true', decide_eq_true_eq, List.all_eq_true, decide_eq_false_iff_not] at h
  obtain ⟨⟨⟨⟨⟨⟨⟨⟨⟨h1, h2⟩, h3⟩, h4⟩, h5⟩, h6⟩, h7⟩, h8⟩, h9⟩, h10⟩ := h
  have hlen : (N.take fn.np).length = fn.np := by rw [List.length_take]; omega
  have hpar : ∀ y ∈ N.take fn.np, (defScope st).names.lookup y = some .local ∨ (defScope st).names.lookup y = some .cell := fun y hy => by
    have := h7 y hy
    unfold locB at this
    split at this
    · exact .inl (by assumption)
    · exact .inr (by assumption)
    · cases this
  have S : FnScope N (N.take fn.np) (defScope st) := ⟨h1, h2, h3, h4, by rw [hlen], hpar, fun y hy => h8 y hy⟩
  have argn : ∀ vs H Q E, spF K Ψ i vs H Q E → vs.length = fn.np := by
    rintro vs H Q E ⟨F0, bs, r, bs', re, hr, _⟩
    rw [hi] at hr
    unfold runFn at hr
    split at hr
    · rename_i hc
      have := re.len
      rw [List.length_map] at this
      omega
    · cases hr
  refine F.ok S (fun vs H Q E hs => by rw [argn vs H Q E hs, hlen]) fun cdv A outer s H vs Q E hroom hs => ?_
  have hvl := argn vs H Q E hs
  obtain ⟨F0, bs, r, bs', re, hr, q⟩ := hs
  rw [hi] at hr
  unfold runFn at hr
  split at hr
  case isFalse => cases hr
  rename_i hc
  obtain ⟨hbl, hok⟩ := hc
  have O : Ok ⟨N, FT, GT, gcd⟩ G Φ k (cxOf CX0 P w K mg base N x (defScope st) f cdv A outer s H E).nox (defScope st) :=
    ⟨rfl, h4, fun y hy => by
      have := h9 y hy
      unfold nmOk at this
      simp only [Bool.and_eq_true, Bool.not_eq_true'] at this
      exact this, rfl, rfl, W.bi, W.gcd, hroom, hf, W.cs⟩
  have SO : So ⟨N, FT, GT, gcd⟩ G Φ k (cxOf CX0 P w K mg base N x (defScope st) f cdv A outer s H E).nox (defScope st) :=
    ⟨O, ⟨fun y hy => by
      refine ⟨?_, .inl rfl⟩
      unfold locB at hy
      split at hy
      · exact .inl (by assumption)
      · exact .inr (by assumption)
      · cases hy⟩, h1, PassesOwn.never⟩
  refine ⟨_, sSs SO fn.body (defBody st) h10, ?_⟩
  simp only [Option.bind_eq_some_iff] at hr
  obtain ⟨⟨o, env'⟩, hex, hout⟩ := hr
  -- the entry
  have gst : ∀ j, (L2.start N vs)[j]? = if j < fn.np then (vs.map some)[j]? else (if j < N.length then some none else none) := by
    intro j
    unfold L2.start
    by_cases hj : j < fn.np
    · rw [if_pos hj, List.getElem?_append_left (by rw [List.length_map]; omega)]
    · rw [if_neg hj, List.getElem?_append_right (by rw [List.length_map]; omega), List.getElem?_replicate, List.length_map, hvl]
      by_cases h2 : j < N.length
      · rw [if_pos (by omega), if_pos h2]
      · rw [if_neg (by omega), if_neg h2]
  have genv : ∀ j, Mini.get (bs ++ List.replicate (fn.ns - fn.np) B.no) j = if j < fn.np then Mini.get bs j else .no := by
    intro j
    unfold Mini.get
    by_cases hj : j < fn.np
    · rw [if_pos hj, List.getD_eq_getElem?_getD, List.getElem?_append_left (by omega), List.getD_eq_getElem?_getD]
    · rw [if_neg hj, List.getD_eq_getElem?_getD, List.getElem?_append_right (by omega), List.getElem?_replicate]
      split <;> rfl
  have own0 : ∀ j a, OwnS (bs ++ List.replicate (fn.ns - fn.np) B.no) (L2.start N vs) j a → j < fn.np ∧ OwnS bs (vs.map some) j a ∧ (CellS (bs ++ List.replicate (fn.ns - fn.np) B.no) (L2.start N vs) j a → CellS bs (vs.map some) j a) := by
    rintro j a ⟨⟨xs, e⟩, s⟩
    rw [genv] at e
    by_cases hj : j < fn.np
    · rw [if_pos hj] at e
      rw [gst, if_pos hj] at s
      refine ⟨hj, ⟨⟨xs, e⟩, s⟩, fun ⟨⟨ys, c⟩, _⟩ => ⟨⟨ys, ?_⟩, s⟩⟩
      rw [genv, if_pos hj] at c
      exact c
    · rw [if_neg hj] at e
      rcases e with e | e <;> cases e
  have re0 : RE K F0 H (bs ++ List.replicate (fn.ns - fn.np) B.no) (L2.start N vs) := by
    refine ⟨re.sub, ?_, fun j => ?_, fun i j a o1 o2 => re.dis i j a (own0 i a o1).2.1 (own0 j a o2).2.1⟩
    · unfold L2.start
      rw [List.length_append, List.length_append, List.length_replicate, List.length_replicate, List.length_map]
      omega
    · rw [genv, gst]
      by_cases hj : j < fn.np
      · rw [if_pos hj, if_pos hj]; exact re.slot j
      · rw [if_neg hj, if_neg hj]; trivial
  -- the exit, seen by the caller
  have pin : ∀ {j : Nat}, j < fn.np → j ∉ fn.asgd → j ∈ prot fn := fun {j} hj ha => by
    unfold prot
    rw [List.mem_filter]
    exact ⟨List.mem_range.mpr hj, by simpa using ha⟩
  have out : ∀ {σ' : L2.St} {F' H' : Hp} {e' : Mini.Env}, RE K F' H' e' σ' → Ext (bs ++ List.replicate (fn.ns - fn.np) B.no) (L2.start N vs) F0 H e' σ' F' H' → (∀ j ∈ prot fn, σ'[j]? = (L2.start N vs)[j]?) →
      RE K F' H' (outB fn.np fn.asgd e') (vs.map some) ∧ Ext bs (vs.map some) F0 H (outB fn.np fn.asgd e') (vs.map some) F' H' ∧ ∀ j a, OwnS (outB fn.np fn.asgd e') (vs.map some) j a → j < fn.np ∧ OwnS e' σ' j a := by
    intro σ' F' H' e' re' x' ag
    have gb : ∀ j, Mini.get (outB fn.np fn.asgd e') j = if j < fn.np then (if j ∈ fn.asgd then .no else Mini.get e' j) else .no := fun j => get_out
    have own1 : ∀ j a, OwnS (outB fn.np fn.asgd e') (vs.map some) j a → j < fn.np ∧ OwnS e' σ' j a ∧ (CellS (outB fn.np fn.asgd e') (vs.map some) j a → CellS e' σ' j a) := by
      rintro j a ⟨⟨xs, e⟩, s⟩
      rw [gb] at e
      by_cases hj : j < fn.np
      · rw [if_pos hj] at e
        by_cases ha : j ∈ fn.asgd
        · rw [if_pos ha] at e; rcases e with e | e <;> cases e
        · rw [if_neg ha] at e
          have es : σ'[j]? = some (some (.ref a)) := by rw [ag j (pin hj ha), gst, if_pos hj]; exact s
          refine ⟨hj, ⟨⟨xs, e⟩, es⟩, fun ⟨⟨ys, c⟩, _⟩ => ⟨⟨ys, ?_⟩, es⟩⟩
          rw [gb, if_pos hj, if_neg ha] at c
          exact c
      · rw [if_neg hj] at e; rcases e with e | e <;> cases e
    refine ⟨⟨re'.sub, ?_, fun j => ?_, fun i j a o1 o2 => re'.dis i j a (own1 i a o1).2.1 (own1 j a o2).2.1⟩, ⟨x'.mono, fun a o e n => x'.keep a o e fun j c => n j ((own0 j a c.own).2.2 c), x'.live, fun a o e => ?_, fun j a c => ?_, fun j a o => ?_⟩, fun j a o => ⟨(own1 j a o).1, (own1 j a o).2.1⟩⟩
    · unfold outB; rw [List.length_map, List.length_map, List.length_range]; omega
    · rw [gb]
      by_cases hj : j < fn.np
      · rw [if_pos hj]
        by_cases ha : j ∈ fn.asgd
        · rw [if_pos ha]; trivial
        · rw [if_neg ha]
          have s := re'.slot j
          rw [ag j (pin hj ha), gst, if_pos hj] at s
          exact s
      · rw [if_neg hj]; trivial
    · rcases x'.fnew a o e with z | z | ⟨p, z⟩
      · exact .inl z
      · exact .inr (.inl z)
      · exact .inr (.inr ⟨p, (own0 p a z.own).2.2 z⟩)
    · obtain ⟨_, _, c1⟩ := own1 j a c.own
      rcases x'.cnew j a (c1 c) with z | z
      · exact .inl ((own0 j a z.own).2.2 z)
      · exact .inr z
    · obtain ⟨_, o1, _⟩ := own1 j a o
      rcases x'.onew j a o1 with z | z
      · exact .inl (own0 j a z).2.1
      · exact .inr z
  refine ⟨_, F0, o, env', re0, hex, ?_⟩
  cases o with
  | brk => cases hout
  | next =>
    cases hout
    intro σ' F' H' re' x' ag
    obtain ⟨re2, x2, _⟩ := out re' x' ag
    exact q _ F' H' re2 x2 rfl
  | ret r' =>
    simp only [Option.map_eq_some_iff] at hout
    obtain ⟨⟨r2, env2⟩, ho, he⟩ := hout
    cases he
    intro v σ' F' H' re' x' ag q'
    cases r' with
    | val d =>
      cases ho
      obtain ⟨re2, x2, _⟩ := out re' x' ag
      exact q _ F' H' re2 x2 q'
    | own ds =>
      cases ho
      obtain ⟨re2, x2, w2⟩ := out re' x' ag
      obtain ⟨a, ws, e, e0, f, hh, rr, no⟩ := q'
      exact q _ F' H' re2 x2 ⟨a, ws, e, e0, f, hh, rr, fun j z => no j (w2 j a z).2⟩
    | ref j =>
      simp only [outR] at ho
      split at ho
      · simp only [Option.map_eq_some_iff] at ho
        obtain ⟨⟨d, e3⟩, hf, he⟩ := ho
        cases he
        obtain ⟨F3, re3, x3, r3⟩ := fz_ok re' x' q' hf
        obtain ⟨re2, x2, _⟩ := out re3 x3 ag
        exact q _ F3 H' re2 x2 r3
      · rename_i hj
        have q' : σ'[j]? = some (some v) := q'
        have cell : ∀ {xs : List D}, (Mini.get env' j = .cell xs ∨ Mini.get env' j = .lock xs) → some (RV.own xs, env') = some (r2, env2) → Q v H' := by
          intro xs hg ho
          cases ho
          obtain ⟨re2, x2, w2⟩ := out re' x' ag
          have s := re'.slot j
          have : ∃ a vs, σ'[j]? = some (some (.ref a)) ∧ F' a = none ∧ H' a = some (.lst vs) ∧ Reps K F' xs vs := by
            rcases hg with hg | hg <;> (rw [hg] at s; exact s)
          obtain ⟨a, ws, e, f, hh, rr⟩ := this
          rw [q'] at e; cases e
          have oj : OwnS env' σ' j a := ⟨⟨xs, hg⟩, q'⟩
          refine q _ F' H' re2 x2 ⟨a, ws, rfl, ?_, f, hh, rr, fun i z => ?_⟩
          · rcases x'.onew j a oj with z | z
            · exact absurd (own0 j a z).1 hj
            · exact z
          · obtain ⟨hi', oi⟩ := w2 i a z
            have := re'.dis i j a oi oj
            omega
        split at ho
        · rename_i xs hg
          exact cell (.inl hg) ho
        · rename_i xs hg
          exact cell (.inr hg) ho
        · rename_i d hg
          cases ho
          obtain ⟨re2, x2, _⟩ := out re' x' ag
          obtain ⟨y, ey, ry⟩ := re'.val hg
          rw [q'] at ey; cases ey
          exact q _ F' H' re2 x2 ry
        · cases ho
end
end MS

/-! All defs of a row, by levels; the law's end. -/
namespace MS
open PySem PySem.Spec PyProof.Rows L2 Mini
structure Ent where
  x : Str
  st : Stmt
  N : List Str
  ps : List Str
  fn : Fn
/-- a def as the top has written it -/
def DefIs (K : Frag) (mg : Str → Option Value) (x : Str) (st : Stmt) : Prop := ∃ (f : Addr) (kV dc pm : Value) (an : Option Addr) (cd ct : Value), mg x = some (.ref f) ∧ L2.Fun K x x st f (PySem.W.fnOf x x (defArgs st) (defBody st) (defScope st) .none kV dc pm an cd ct)
theorem defIs {K : Frag} {h : Heap} {mg : Str → Option Value} (X : K.In h) (G : h.Ns mainGlobals mg) {x : Str} {st : Stmt} {f : Addr} {od an : Option Addr} {sl : Array (Option Value)} {oc kV dc pm cd ct : Value}
    (a : PySem.W.nsIn K mainGlobals x = some (some (.ref f))) (l : K.lookup f = some ⟨oc, od, .func (PySem.W.fnOf x x (defArgs st) (defBody st) (defScope st) .none kV dc pm an cd ct), sl⟩) (c : PySem.W.codeIn K cd x = true) (k : PySem.W.keepIn K (.ref f) = true) : DefIs K mg x st :=
  ⟨f, kV, dc, pm, an, cd, ct, PySem.W.mg_of X G a, fun_mk l c k⟩
def BindOk (e : Ent) : Prop := ∀ (kV doc pm : Value) (an : Option Addr) (cdv ct : Value) (us : List Value), us.length = e.ps.length → bindArgs (PySem.W.fnOf e.x e.x (defArgs e.st) (defBody e.st) (defScope e.st) .none kV doc pm an cdv ct) ⟨us, []⟩ = pure (e.ps.zip us)
structure EntOk (FT GT : List Str) (gcd : Bool) (e : Ent) : Prop where
  chk : chkF FT GT gcd e.N e.fn e.st = true
  ps : e.N.take e.fn.np = e.ps
  bind : BindOk e
  dbg : (e.x == ("__debug__" : Str)) = false
section
variable {P : Program} {w : World} {K : Frag} {mg : Str → Option Value} {base : Heap} {GT : List Str} {gcd : Bool} {G : List D} {es : List Ent}
theorem all_ok (W : Wd K mg (es.map (·.x)) GT gcd G) (ok : ∀ e ∈ es, EntOk (es.map (·.x)) GT gcd e) (df : ∀ e ∈ es, DefIs K mg e.x e.st) : ∀ (n : Nat) (i : Nat) (e : Ent), es[i]? = some e →
    ∀ (a : Addr) (kV dc pm : Value) (an : Option Addr) (cd ct : Value), L2.Fun K e.x e.x e.st a (PySem.W.fnOf e.x e.x (defArgs e.st) (defBody e.st) (defScope e.st) .none kV dc pm an cd ct) →
      FnOk P w K mg base CX0 n a (PySem.W.fnOf e.x e.x (defArgs e.st) (defBody e.st) (defScope e.st) .none kV dc pm an cd ct) e.ps (spF K (callF G (es.map (·.fn)) n) i)
  | 0, i, e, he, a, kV, dc, pm, an, cd, ct, F => by
    refine ⟨?_, ?_⟩
    · rintro vs H Q E ⟨F0, bs, r, bs', _, hr, _⟩
      cases hr
    · rintro A outer s H args us vs Q E _ _ _ _ ⟨F0, bs, r, bs', _, hr, _⟩
      cases hr
  | n + 1, i, e, he, a, kV, dc, pm, an, cd, ct, F => by
    have o := ok e (List.mem_of_getElem? he)
    rw [← o.ps]
    refine fn_ok W F o.chk (fun f x hf => ?_) (Φ := callF G (es.map (·.fn)) n) (fun bs => ?_)
    · rw [List.getElem?_map] at hf
      cases he' : es[f]? with
      | none => rw [he'] at hf; cases hf
      | some e' =>
        rw [he'] at hf
        cases hf
        have hm' := List.mem_of_getElem? he'
        obtain ⟨a', kV', dc', pm', an', cd', ct', h1, F'⟩ := df e' hm'
        exact ⟨a', _, _, h1, F'.kp, F'.binds (ok e' hm').bind, all_ok W ok df n f e' he' _ _ _ _ _ _ _ F', (ok e' hm').dbg⟩
    · show ((es.map (·.fn))[i]?).bind _ = _
      rw [List.getElem?_map, he]
      rfl
end
theorem reps_int {K : Frag} {F : Hp} (ns : List Int) : Reps K F (ns.map D.int) (ns.map V.int) := reps_ints ns
/-- the script, as the law's one argument -/
theorem sp_law {K : Frag} {Φ : Calls} {j : Nat} {H : Hp} {a : Addr} {ns : List Int} {Q : VK} {E : XK} {bs' : List B} (hS : SqL K H a (ns.map V.int)) (h : Φ j [.val (.fl (ns.map .int))] = some (.val (.bl true), bs')) (q : ∀ H', Q (.bl true) H') : spF K Φ j [.ref a] H Q E := by
  refine ⟨H, _, _, bs', ⟨fun _ _ z => z, rfl, fun i => ?_, fun i k b o => ?_⟩, h, fun v F' H' _ _ r => by rw [show v = _ from r]; exact q H'⟩
  · cases i with
    | zero => exact ⟨_, rfl, a, ns.map V.int, rfl, hS, reps_int ns⟩
    | succ i => trivial
  · obtain ⟨⟨xs, e⟩, _⟩ := o
    cases i with
    | zero => rcases e with e | e <;> cases e
    | succ i => rcases e with e | e <;> cases e
theorem law_fin {P : Program} {w : World} {K : Frag} {mg : Str → Option Value} {GT : List Str} {gcd : Bool} {G : List D} {es : List Ent} {fa : Addr} {eL : Ent} {n j : Nat} {y : Str} (hmg : mg eL.x = some (.ref fa)) (W : Wd K mg (es.map (·.x)) GT gcd G) (ok : ∀ e ∈ es, EntOk (es.map (·.x)) GT gcd e) (df : ∀ e ∈ es, DefIs K mg e.x e.st)
    (hj : es[j]? = some eL) (hp : eL.ps = [y]) :
    ∃ fd : FuncData, (∀ (s : Shared) (v : Value), BindsTo s fd ⟨[v], []⟩ [(y, v)]) ∧ ∀ base : Heap, K.In base → base.Ns mainGlobals mg → FnOk P w K mg base CX0 n fa fd [y] (spF K (callF G (es.map (·.fn)) n) j) := by
  obtain ⟨a, kV, dc, pm, an, cd, ct, h1, F⟩ := df eL (List.mem_of_getElem? hj)
  rw [hmg] at h1; cases h1
  have o := ok eL (List.mem_of_getElem? hj)
  refine ⟨PySem.W.fnOf eL.x eL.x (defArgs eL.st) (defBody eL.st) (defScope eL.st) .none kV dc pm an cd ct, fun s v => ?_, fun base _ _ => ?_⟩
  · have := o.bind kV dc pm an cd ct [v] (by rw [hp]; rfl)
    rw [hp] at this
    exact .of_eq this
  · have := all_ok (P := P) (w := w) (base := base) W ok df n j eL hj _ _ _ _ _ _ _ F
    rw [hp] at this
    exact this
end MS

/-! Plain laws: how a Mini text is stepped through. -/
namespace PL
open Mini
theorem nd {α : Type} {a b : α} (h : a = b) : a = b := h
def W {α : Type} (x : Option α) (Q : α → Prop) : Prop := ∃ a, x = some a ∧ Q a
section
variable {α β : Type} {x : Option α} {a : α} {Q : α → Prop} {R : β → Prop}
theorem W_some : W (some a) Q ↔ Q a := ⟨fun ⟨_, e, q⟩ => by cases e; exact q, fun q => ⟨a, rfl, q⟩⟩
theorem W_none : W (none : Option α) Q ↔ False := by
  constructor
  · rintro ⟨_, e, _⟩
    cases e
  · exact False.elim
theorem W_bind {f : α → Option β} : W (x.bind f) R ↔ W x fun a => W (f a) R := by
  cases x with
  | none => exact ⟨fun ⟨_, e, _⟩ => (by cases e), fun ⟨_, e, _⟩ => (by cases e)⟩
  | some a => exact ⟨fun h => ⟨a, rfl, h⟩, fun ⟨b, e, h⟩ => by cases e; exact h⟩
theorem W_map {f : α → β} : W (x.map f) R ↔ W x fun a => R (f a) := by
  cases x with
  | none => exact ⟨fun ⟨_, e, _⟩ => (by cases e), fun ⟨_, e, _⟩ => (by cases e)⟩
  | some a => exact ⟨fun ⟨_, e, h⟩ => ⟨a, rfl, by cases e; exact h⟩, fun ⟨b, e, h⟩ => by cases e; exact ⟨_, rfl, h⟩⟩
theorem W_ite {c : Prop} [Decidable c] {y : Option α} : W (if c then x else y) Q ↔ (c → W x Q) ∧ (¬ c → W y Q) := by
  by_cases h : c <;> simp [h]
theorem W_mono {Q' : α → Prop} (h : W x Q) (q : ∀ a, Q a → Q' a) : W x Q' := let ⟨a, e, z⟩ := h; ⟨a, e, q a z⟩
theorem W_eq (h : x = some a) (q : Q a) : W x Q := ⟨a, h, q⟩
theorem W.get (h : W x fun z => z = a) : x = some a := by obtain ⟨_, e, rfl⟩ := h; exact e
theorem get0 {b : B} {e : Env} : get (b :: e) 0 = b := nd rfl
theorem getS {b : B} {e : Env} {n : Nat} : get (b :: e) (n + 1) = get e n := by
  unfold Mini.get
  rw [List.getD_eq_getElem?_getD, List.getD_eq_getElem?_getD, List.getElem?_cons_succ]
theorem fin_f {o : Option (RV × Env)} : fin false o = o := nd rfl
theorem fin_t {o : Option (RV × Env)} : fin true o = o.bind fun p => (pk p.2 p.1).bind fun x => (truD x).map fun k => (.val (.bl k), p.2) := nd rfl
theorem tst_eq {o : Option (RV × Env)} : tst o = o.bind fun p => (blR p.1).map fun k => (k, p.2) := nd rfl
theorem blR_bl {b : Bool} : blR (.val (.bl b)) = some b := nd rfl
theorem pk_val {e : Env} {d : D} : pk e (.val d) = some d := nd rfl
theorem pk_own {e : Env} {d : List D} : pk e (.own d) = some (.vl d) := nd rfl
theorem fz_val {e : Env} {d : D} : fz e (.val d) = some (d, e) := nd rfl
theorem pk_ref {e : Env} {i : Nat} : pk e (.ref i) = match get e i with
    | .val d => some d
    | .cell xs => some (.vl xs)
    | .lock xs => some (.vl xs)
    | .no => none := nd rfl
theorem fz_ref {e : Env} {i : Nat} : fz e (.ref i) = match get e i with
    | .val d => some (d, e)
    | .cell xs => some (.vl xs, e.set i (.val (.vl xs)))
    | _ => none := nd rfl
theorem outR_val {n : Nat} {e : Env} {d : D} : outR n e (.val d) = some (.val d, e) := nd rfl
theorem outR_own {n : Nat} {e : Env} {d : List D} : outR n e (.own d) = some (.own d, e) := nd rfl
theorem outR_ref {n i : Nat} {e : Env} : outR n e (.ref i) = if i < n then (fz e (.ref i)).map fun (d, e) => (.val d, e) else match get e i with
    | .cell xs => some (.own xs, e)
    | .lock xs => some (.own xs, e)
    | .val d => some (.val d, e)
    | .no => none := nd rfl
theorem W_lim {xs : List D} {Q : List D → Prop} : W (lim xs) Q ↔ xs.length ≤ LIM ∧ Q xs := by
  unfold lim
  rw [W_ite, W_some, W_none]
  exact ⟨fun ⟨a, b⟩ => ⟨Classical.byContradiction b, a (Classical.byContradiction b)⟩, fun ⟨a, b⟩ => ⟨fun _ => b, fun h => h a⟩⟩
theorem fz_own {e : Env} {d : List D} : fz e (.own d) = some (.vl d, e) := nd rfl
theorem bindR_val {e : Env} {i : Nat} {d : D} : bindR e i (.val d) = some (e.set i (.val d)) := nd rfl
theorem bindR_own {e : Env} {i : Nat} {d : List D} : bindR e i (.own d) = some (e.set i (.cell d)) := nd rfl
theorem bindR_ref {e : Env} {i j : Nat} : bindR e i (.ref j) = (fz e (.ref j)).map fun p => p.2.set i (.val p.1) := nd rfl
theorem intD_int {i : Int} : intD (.int i) = some i := nd rfl
theorem tru_bl {b : Bool} : truD (.bl b) = some b := nd rfl
theorem tru_int {i : Int} : truD (.int i) = some (i != 0) := nd rfl
theorem tru_vl {xs : List D} : truD (.vl xs) = some (!xs.isEmpty) := nd rfl
theorem tru_tup {xs : List D} : truD (.tup xs) = some (!xs.isEmpty) := nd rfl
theorem tru_fl {xs : List D} : truD (.fl xs) = some (!xs.isEmpty) := nd rfl
theorem tru_non : truD .non = some false := nd rfl
end
section
variable {a b : Int} {u v : Bool} {xs ys : List D} {d d' : D}
theorem add_i : binop .add (.int a) (.int b) = some (.val (.int (a + b))) := nd rfl
theorem sub_i : binop .sub (.int a) (.int b) = some (.val (.int (a - b))) := nd rfl
theorem mul_i : binop .mul (.int a) (.int b) = if mulOk a b then some (.val (.int (a * b))) else none := nd rfl
theorem fdiv_i : binop .fdiv (.int a) (.int b) = if divOk b then some (.val (.int (a.fdiv b))) else none := nd rfl
theorem mod_i : binop .mod (.int a) (.int b) = if b ≠ 0 then some (.val (.int (a.fmod b))) else none := nd rfl
theorem pow_i : binop .pow (.int a) (.int b) = if powOk a b then some (.val (.int (a ^ b.toNat))) else none := nd rfl
theorem add_t : binop .add (.tup xs) (.tup ys) = if xs.length + ys.length ≤ LIM then some (.val (.tup (xs ++ ys))) else none := nd rfl
theorem add_l : binop .add (.vl xs) (.vl ys) = if xs.length + ys.length ≤ LIM then some (.own (xs ++ ys)) else none := nd rfl
theorem mul_l : binop .mul (.vl xs) (.int b) = if rngOk b && decide (xs.length * b.toNat ≤ LIM) then some (.own (rep xs b)) else none := nd rfl
theorem badd_i : binI .add (.int a) (.int b) = some (.val (.int (a + b))) := nd rfl
theorem badd_t : binI .add (.tup xs) (.tup ys) = binop .add (.tup xs) (.tup ys) := nd rfl
theorem bsub_i : binI .sub (.int a) (.int b) = some (.val (.int (a - b))) := nd rfl
theorem bmul_i : binI .mul (.int a) (.int b) = if mulOk a b then some (.val (.int (a * b))) else none := nd rfl
theorem bfdiv_i : binI .fdiv (.int a) (.int b) = if divOk b then some (.val (.int (a.fdiv b))) else none := nd rfl
theorem c_eq : cmpop .eq d d' = if dok (depD d) (depD d') then some (eqD d d') else none := nd rfl
theorem c_ne : cmpop .ne d d' = if dok (depD d) (depD d') then some (!eqD d d') else none := nd rfl
theorem c_lt : cmpop .lt (.int a) (.int b) = some (decide (a < b)) := nd rfl
theorem c_le : cmpop .le (.int a) (.int b) = some (decide (a ≤ b)) := nd rfl
theorem c_gt : cmpop .gt (.int a) (.int b) = some (decide (b < a)) := nd rfl
theorem c_ge : cmpop .ge (.int a) (.int b) = some (decide (b ≤ a)) := nd rfl
theorem c_in_t : cmpop .isin d (.tup ys) = if dok (depDs ys) (depD d) then some (isinD d ys) else none := by cases d <;> rfl
theorem c_in_l : cmpop .isin d (.vl ys) = if dok (depDs ys) (depD d) then some (isinD d ys) else none := by cases d <;> rfl
theorem c_nin_t : cmpop .notin d (.tup ys) = if dok (depDs ys) (depD d) then some (!isinD d ys) else none := by cases d <;> rfl
theorem c_nin_l : cmpop .notin d (.vl ys) = if dok (depDs ys) (depD d) then some (!isinD d ys) else none := by cases d <;> rfl
theorem dok_l {n : Nat} : dok 0 n = true := nd rfl
theorem dok_r {n : Nat} : dok n 0 = true := by unfold dok; simp
theorem dep_int : depD (.int a) = 0 := nd rfl
theorem dep_bl : depD (.bl u) = 0 := nd rfl
theorem dep_non : depD .non = 0 := nd rfl
theorem dep_str {s : List Nat} : depD (.str s) = 0 := nd rfl
theorem eq_ii : eqD (.int a) (.int b) = (a == b) := nd rfl
theorem eq_bb : eqD (.bl u) (.bl v) = (u == v) := nd rfl
theorem eq_ss {s s' : List Nat} : eqD (.str s) (.str s') = (s == s') := nd rfl
theorem eq_nn : eqD .non .non = true := nd rfl
theorem b_len_t : bip .len [.tup xs] = some (.val (.int xs.length)) := nd rfl
theorem b_len_v : bip .len [.vl xs] = some (.val (.int xs.length)) := nd rfl
theorem b_len_f : bip .len [.fl xs] = some (.val (.int xs.length)) := nd rfl
theorem b_tup_t : bip .tuple [.tup xs] = some (.val (.tup xs)) := nd rfl
theorem b_tup_v : bip .tuple [.vl xs] = some (.val (.tup xs)) := nd rfl
theorem b_tup_f : bip .tuple [.fl xs] = some (.val (.tup xs)) := nd rfl
theorem b_lst_t : bip .list [.tup xs] = some (.own xs) := nd rfl
theorem b_lst_v : bip .list [.vl xs] = some (.own xs) := nd rfl
theorem b_lst_f : bip .list [.fl xs] = some (.own xs) := nd rfl
theorem b_min2 : bip .min2 [.int a, .int b] = some (.val (.int (min a b))) := by
  show some (RV.val (.int _)) = _
  congr 3
  split <;> omega
theorem b_max2 : bip .max2 [.int a, .int b] = some (.val (.int (max a b))) := by
  show some (RV.val (.int _)) = _
  congr 3
  split <;> omega
theorem b_abs : bip .abs [.int a] = some (.val (.int (a.natAbs : Int))) := by
  show some (RV.val (.int _)) = _
  congr 3
  split <;> omega
theorem b_int_i : bip .int [.int a] = some (.val (.int a)) := nd rfl
theorem b_int_b : bip .int [.bl u] = some (.val (.int (if u then 1 else 0))) := nd rfl
theorem b_isB : bip .isBool [d] = some (.val (.bl (match d with | .bl _ => true | _ => false))) := nd rfl
theorem b_isI : bip .isInt [d] = some (.val (.bl (match d with | .int _ => true | .bl _ => true | _ => false))) := nd rfl
theorem b_isS : bip .isStr [d] = some (.val (.bl (match d with | .str _ => true | _ => false))) := nd rfl
theorem b_isT : bip .isTuple [d] = some (.val (.bl (match d with | .tup _ => true | _ => false))) := nd rfl
theorem intsD_map {l : List Int} : intsD (l.map D.int) = some l := by
  induction l with
  | nil => rfl
  | cons a l ih => show (intsD (l.map D.int)).map (a :: ·) = _; rw [ih]; rfl
theorem blsD_map {l : List Bool} : blsD (l.map D.bl) = some l := by
  induction l with
  | nil => rfl
  | cons a l ih => show (blsD (l.map D.bl)).map (a :: ·) = _; rw [ih]; rfl
theorem b_sum_v {l : List Int} : bip .sum [.vl (l.map D.int)] = some (.val (.int l.sum)) := by
  show ((some _).bind intsD).map _ = _
  rw [Option.bind_some, intsD_map]; rfl
theorem b_sum_t {l : List Int} : bip .sum [.tup (l.map D.int)] = some (.val (.int l.sum)) := by
  show ((some _).bind intsD).map _ = _
  rw [Option.bind_some, intsD_map]; rfl
theorem b_any_v {l : List Bool} : bip .any [.vl (l.map D.bl)] = some (.val (.bl (l.any id))) := by
  show ((some _).bind blsD).map _ = _
  rw [Option.bind_some, blsD_map]; rfl
theorem b_all_v {l : List Bool} : bip .all [.vl (l.map D.bl)] = some (.val (.bl (l.all id))) := by
  show ((some _).bind blsD).map _ = _
  rw [Option.bind_some, blsD_map]; rfl
theorem r1 : rngD [.int a] = if rngOk a then some (rngList 0 a.toNat 1) else none := nd rfl
theorem r2 : rngD [.int a, .int b] = if rngOk a && rngOk b then some (rngList a (b - a).toNat 1) else none := nd rfl
theorem ix_t {i : Int} : idxD (.tup xs) i = (ixP xs.length i).bind fun k => xs[k]? := nd rfl
theorem ix_v {i : Int} : idxD (.vl xs) i = (ixP xs.length i).bind fun k => xs[k]? := nd rfl
theorem ix_f {i : Int} : idxD (.fl xs) i = (ixP xs.length i).bind fun k => xs[k]? := nd rfl
theorem at_in {i : Int} {n : Nat} (h : 0 ≤ i) (h2 : i < n) : ixP n i = some i.toNat := by
  unfold ixP; rw [if_pos h, if_pos h2]
theorem ixS {i : Int} {Q : D → Prop} (h : 0 ≤ i) {x : D} (hx : xs[i.toNat]? = some x) (q : Q x) : W ((ixP xs.length i).bind fun k => xs[k]?) Q := by
  have hl := (List.getElem?_eq_some_iff.mp hx).1
  rw [at_in h (by omega), Option.bind_some]
  exact ⟨x, hx, q⟩
end
theorem outB_0 {a : List Nat} {e : Env} : outB 0 a e = [] := nd rfl
theorem outB_1 {a : List Nat} {e : Env} : outB 1 a e = [if a.contains 0 then .no else get e 0] := nd rfl
theorem outB_2 {a : List Nat} {e : Env} : outB 2 a e = [if a.contains 0 then .no else get e 0, if a.contains 1 then .no else get e 1] := nd rfl
theorem outB_3 {a : List Nat} {e : Env} : outB 3 a e = [if a.contains 0 then .no else get e 0, if a.contains 1 then .no else get e 1, if a.contains 2 then .no else get e 2] := nd rfl
theorem outB_4 {a : List Nat} {e : Env} : outB 4 a e = [if a.contains 0 then .no else get e 0, if a.contains 1 then .no else get e 1, if a.contains 2 then .no else get e 2, if a.contains 3 then .no else get e 3] := nd rfl
theorem outB_5 {a : List Nat} {e : Env} : outB 5 a e = [if a.contains 0 then .no else get e 0, if a.contains 1 then .no else get e 1, if a.contains 2 then .no else get e 2, if a.contains 3 then .no else get e 3, if a.contains 4 then .no else get e 4] := nd rfl
theorem outB_6 {a : List Nat} {e : Env} : outB 6 a e = [if a.contains 0 then .no else get e 0, if a.contains 1 then .no else get e 1, if a.contains 2 then .no else get e 2, if a.contains 3 then .no else get e 3, if a.contains 4 then .no else get e 4, if a.contains 5 then .no else get e 5] := nd rfl
theorem outB_7 {a : List Nat} {e : Env} : outB 7 a e = [if a.contains 0 then .no else get e 0, if a.contains 1 then .no else get e 1, if a.contains 2 then .no else get e 2, if a.contains 3 then .no else get e 3, if a.contains 4 then .no else get e 4, if a.contains 5 then .no else get e 5, if a.contains 6 then .no else get e 6] := nd rfl
theorem outB_8 {a : List Nat} {e : Env} : outB 8 a e = [if a.contains 0 then .no else get e 0, if a.contains 1 then .no else get e 1, if a.contains 2 then .no else get e 2, if a.contains 3 then .no else get e 3, if a.contains 4 then .no else get e 4, if a.contains 5 then .no else get e 5, if a.contains 6 then .no else get e 6, if a.contains 7 then .no else get e 7] := nd rfl
theorem callF_succ {G : List D} {P : List Fn} {n f : Nat} {fn : Fn} {bs : List B} (h : P[f]? = some fn) : callF G P (n + 1) f bs = runFn G (callF G P n) fn bs := by
  show (P[f]?).bind _ = _
  rw [h]; rfl
/-- a def, entered -/
theorem run_ok {G : List D} {Φ : Calls} {np ns : Nat} {asgd : List Nat} {body : Ss} {bs : List B} {Q : RV × List B → Prop} (h1 : bs.length = np) (h2 : okArg asgd bs = true)
    (h : W (exSs G Φ body (bs ++ List.replicate (ns - np) .no)) fun p => match p.1 with
      | .ret r => W (outR np p.2 r) fun q => Q (q.1, outB np asgd q.2)
      | .next => Q (.val .non, outB np asgd p.2)
      | .brk => False) : W (runFn G Φ ⟨np, ns, asgd, body⟩ bs) Q := by
  unfold runFn
  rw [if_pos ⟨h1, h2⟩]
  rw [W_bind]
  refine W_mono h fun ⟨o, e⟩ q => ?_
  cases o with
  | next => exact W_some.mpr q
  | brk => exact q.elim
  | ret r => exact W_map.mpr q

section
variable {G : List D} {Φ : Calls} {env : Env}
def cmpL (G : List D) (Φ : Calls) (own : List Nat) (elt : E) (t : T) (xs : List D) (env : Env) : Option (List D × Env) := compL (fun x e => (bindT (wipe e own) t x).bind fun e => (evX G Φ elt false e).bind fun (r, e) => fz e r) xs env
def cmpIfL (G : List D) (Φ : Calls) (own : List Nat) (elt : E) (t : T) (c : E) (xs : List D) (env : Env) : Option (List D × Env) := compIfL (fun x e => (bindT (wipe e own) t x).bind fun e => tst (evX G Φ c true e)) (fun e => (evX G Φ elt false e).bind fun (r, e) => fz e r) xs env
def forE (G : List D) (Φ : Calls) (t : T) (b : Ss) (xs : List D) (env : Env) : Option (Out × Env) := forL (fun x e => (bindT e t x).bind fun e => exSs G Φ b e) xs env
def whE (G : List D) (Φ : Calls) (c : E) (b : Ss) (env : Env) : Option (Out × Env) := whL (evT G Φ c) (exSs G Φ b) W0 env
theorem X_non  : evX G Φ (.non) false env = some (.val .non, env) := nd rfl
theorem X_bl {b : Bool} : evX G Φ (.bl b) false env = some (.val (.bl b), env) := nd rfl
theorem T_bl {b : Bool} : evX G Φ (.bl b) true env = fin true (evX G Φ (.bl b) false env) := nd rfl
theorem X_int {i : Int} : evX G Φ (.int i) false env = some (.val (.int i), env) := nd rfl
theorem X_str {s : List Nat} : evX G Φ (.str s) false env = some (.val (.str s), env) := nd rfl
theorem X_var {i : Nat} : evX G Φ (.var i) false env = (match get env i with | .no => none | .val d => some (.val d, env) | _ => some (.ref i, env)) := nd rfl
theorem T_var {i : Nat} : evX G Φ (.var i) true env = fin true (evX G Φ (.var i) false env) := nd rfl
theorem X_gl {c : Nat} : evX G Φ (.gl c) false env = (G[c]?).map fun d => (.val d, env) := nd rfl
theorem X_tup {es : Es} : evX G Φ (.tup es) false env = (evVs G Φ es env).bind fun p => (lim p.1).map fun ds => (.val (.tup ds), p.2) := nd rfl
theorem X_lst {es : Es} : evX G Φ (.lst es) false env = (evVs G Φ es env).bind fun p => (lim p.1).map fun ds => (.own ds, p.2) := nd rfl
theorem X_bin {op : Bop} {a b : E} : evX G Φ (.bin op a b) false env = (evX G Φ a false env).bind fun p => (evX G Φ b false p.2).bind fun q => (pk q.2 p.1).bind fun x => (pk q.2 q.1).bind fun y => (binop op x y).map fun r => (r, q.2) := nd rfl
theorem X_neg {a : E} : evX G Φ (.neg a) false env = (evX G Φ a false env).bind fun p => match p.1 with | .val (.int i) => some (.val (.int (-i)), p.2) | _ => none := nd rfl
theorem X_cmp {op : Cop} {a b : E} : evX G Φ (.cmp op a b) false env = (evX G Φ a false env).bind fun p => (evX G Φ b false p.2).bind fun q => (pk q.2 p.1).bind fun x => (pk q.2 q.1).bind fun y => (cmpop op x y).map fun k => (.val (.bl k), q.2) := nd rfl
theorem T_cmp {op : Cop} {a b : E} : evX G Φ (.cmp op a b) true env = fin true (evX G Φ (.cmp op a b) false env) := nd rfl
theorem X_chain {op op' : Cop} {a b c : E} : evX G Φ (.chain op op' a b c) false env = (evX G Φ a false env).bind fun p => (evX G Φ b false p.2).bind fun q => (pk q.2 p.1).bind fun x => (pk q.2 q.1).bind fun y => (cmpop op x y).bind fun k => if k then (evX G Φ c false q.2).bind fun s => (pk s.2 q.1).bind fun y => (pk s.2 s.1).bind fun z => (cmpop op' y z).map fun k => (.val (.bl k), s.2) else some (.val (.bl false), q.2) := nd rfl
theorem T_chain {op op' : Cop} {a b c : E} : evX G Φ (.chain op op' a b c) true env = fin true (evX G Φ (.chain op op' a b c) false env) := nd rfl
theorem X_isN {a : E} {y : Bool} : evX G Φ (.isN a y) false env = (evX G Φ a false env).bind fun p => (pk p.2 p.1).map fun x => (.val (.bl ((match x with | .non => true | _ => false) == y)), p.2) := nd rfl
theorem T_isN {a : E} {y : Bool} : evX G Φ (.isN a y) true env = fin true (evX G Φ (.isN a y) false env) := nd rfl
theorem X_isB {a : E} {b y : Bool} : evX G Φ (.isB a b y) false env = (evX G Φ a false env).bind fun p => (blR p.1).map fun c => (.val (.bl ((c == b) == y)), p.2) := nd rfl
theorem T_isB {a : E} {b y : Bool} : evX G Φ (.isB a b y) true env = fin true (evX G Φ (.isB a b y) false env) := nd rfl
theorem X_ite {a b c : E} : evX G Φ (.ite c a b) false env = (tst (evX G Φ c true env)).bind fun p => if p.1 then evX G Φ a false p.2 else evX G Φ b false p.2 := nd rfl
theorem X_idx {a i : E} : evX G Φ (.idx a i) false env = (evX G Φ a false env).bind fun p => (evX G Φ i false p.2).bind fun q => (pk q.2 p.1).bind fun x => (pk q.2 q.1).bind fun y => (intD y).bind fun k => (idxD x k).map fun d => (.val d, q.2) := nd rfl
theorem T_idx {a i : E} : evX G Φ (.idx a i) true env = fin true (evX G Φ (.idx a i) false env) := nd rfl
theorem X_slT {a i : E} : evX G Φ (.slT a i) false env = (evX G Φ a false env).bind fun p => (evX G Φ i false p.2).bind fun q => (pk q.2 p.1).bind fun x => (pk q.2 q.1).bind fun y => (intD y).bind fun j => (slcD x none (some j)).map fun r => (r, q.2) := nd rfl
theorem X_slF {a i : E} : evX G Φ (.slF a i) false env = (evX G Φ a false env).bind fun p => (evX G Φ i false p.2).bind fun q => (pk q.2 p.1).bind fun x => (pk q.2 q.1).bind fun y => (intD y).bind fun j => (slcD x (some j) none).map fun r => (r, q.2) := nd rfl
theorem X_slB {a i j : E} : evX G Φ (.slB a i j) false env = (evX G Φ a false env).bind fun p => (evX G Φ i false p.2).bind fun q => (pk q.2 q.1).bind fun y => (intD y).bind fun l => (evX G Φ j false q.2).bind fun s => (pk s.2 p.1).bind fun x => (pk s.2 s.1).bind fun z => (intD z).bind fun h => (slcD x (some l) (some h)).map fun r => (r, s.2) := nd rfl
theorem X_rev {a : E} : evX G Φ (.rev a) false env = (evX G Φ a false env).bind fun p => (pk p.2 p.1).bind fun x => (revD x).map fun r => (r, p.2) := nd rfl
theorem X_call {f : Nat} {es : Es} : evX G Φ (.call f es) false env = (evRs G Φ es env).bind fun p => callB Φ f p.1 p.2 := nd rfl
theorem T_call {f : Nat} {es : Es} : evX G Φ (.call f es) true env = fin true (evX G Φ (.call f es) false env) := nd rfl
theorem X_bi {b : Bi} {es : Es} : evX G Φ (.bi b es) false env = (evRs G Φ es env).bind fun p => (pks p.2 p.1).bind fun ds => (bip b ds).map fun r => (r, p.2) := nd rfl
theorem T_bi {b : Bi} {es : Es} : evX G Φ (.bi b es) true env = fin true (evX G Φ (.bi b es) false env) := nd rfl
theorem X_pop {i : Nat} : evX G Φ (.pop i) false env = popL env i := nd rfl
theorem X_popAt {i : Nat} {a : E} : evX G Φ (.popAt i a) false env = (match get env i with
    | .cell _ => (evX G Φ a false env).bind fun p => (pk p.2 p.1).bind fun y => (intD y).bind fun k => popI p.2 i k
    | _ => none) := nd rfl
theorem X_mt {m : Mt} {a : E} {es : Es} : evX G Φ (.mt m a es) false env = (evX G Φ a false env).bind fun p => (pk p.2 p.1).bind fun x0 => if mtK m x0 then (evRs G Φ es p.2).bind fun q => (pk q.2 p.1).bind fun x => (pks q.2 q.1).bind fun ds => (mtp m x ds).map fun r => (r, q.2) else none := nd rfl
theorem T_mt {m : Mt} {a : E} {es : Es} : evX G Φ (.mt m a es) true env = fin true (evX G Φ (.mt m a es) false env) := nd rfl
theorem X_rng {es : Es} : evX G Φ (.rng es) false env = (evRs G Φ es env).bind fun p => (pks p.2 p.1).bind fun ds => (rngD ds).bind fun xs => (lim xs).map fun xs => (.own xs, p.2) := nd rfl
theorem X_comp {own : List Nat} {elt it : E} {t : T} : evX G Φ (.comp own elt t it) false env = (evX G Φ it false env).bind fun p => (itR p.2 p.1).bind fun q => (lim q.1).bind fun xs => (cmpL G Φ own elt t xs q.2.1).map fun r => (.own r.1, unlock (restore q.2.1 r.2 own) q.2.2) := nd rfl
theorem X_compIf {own : List Nat} {elt it c : E} {t : T} : evX G Φ (.compIf own elt t it c) false env = (evX G Φ it false env).bind fun p => (itR p.2 p.1).bind fun q => (lim q.1).bind fun xs => (cmpIfL G Φ own elt t c xs q.2.1).map fun r => (.own r.1, unlock (restore q.2.1 r.2 own) q.2.2) := nd rfl
theorem T_bin {op : Bop} {a b : E} : evX G Φ (.bin op a b) true env = fin true (evX G Φ (.bin op a b) false env) := nd rfl
theorem X_not {a : E} : evX G Φ (.not a) false env = (evX G Φ a false env).bind fun p => (pk p.2 p.1).bind fun x => (truD x).map fun k => (.val (.bl !k), p.2) := nd rfl
theorem T_not {a : E} : evX G Φ (.not a) true env = (tst (evX G Φ a true env)).map fun p => (.val (.bl !p.1), p.2) := nd rfl
theorem X_and {es : Es} : evX G Φ (.and es) false env = (evAndV G Φ es env).map fun p => (.val (.bl p.1), p.2) := nd rfl
theorem T_and {es : Es} : evX G Φ (.and es) true env = (evAnd G Φ es env).map fun p => (.val (.bl p.1), p.2) := nd rfl
theorem X_or {es : Es} : evX G Φ (.or es) false env = (evOrV G Φ es env).map fun p => (.val (.bl p.1), p.2) := nd rfl
theorem T_or {es : Es} : evX G Φ (.or es) true env = (evOr G Φ es env).map fun p => (.val (.bl p.1), p.2) := nd rfl
theorem V_nil : evVs G Φ .nil env = some ([], env) := nd rfl
theorem V_cons {e : E} {es : Es} : evVs G Φ (.cons e es) env = (evX G Φ e false env).bind fun p => (fz p.2 p.1).bind fun q => (evVs G Φ es q.2).map fun r => (q.1 :: r.1, r.2) := nd rfl
theorem R_nil : evRs G Φ .nil env = some ([], env) := nd rfl
theorem R_cons {e : E} {es : Es} : evRs G Φ (.cons e es) env = (evX G Φ e false env).bind fun p => (evRs G Φ es p.2).map fun r => (p.1 :: r.1, r.2) := nd rfl
theorem AV_nil : evAndV G Φ .nil env = some (true, env) := nd rfl
theorem AV_cons {e : E} {es : Es} : evAndV G Φ (.cons e es) env = (tst (evX G Φ e false env)).bind fun p => if p.1 then evAndV G Φ es p.2 else some (false, p.2) := nd rfl
theorem OV_nil : evOrV G Φ .nil env = some (false, env) := nd rfl
theorem OV_cons {e : E} {es : Es} : evOrV G Φ (.cons e es) env = (tst (evX G Φ e false env)).bind fun p => if p.1 then some (true, p.2) else evOrV G Φ es p.2 := nd rfl
theorem A_nil : evAnd G Φ .nil env = some (true, env) := nd rfl
theorem A_cons {e : E} {es : Es} : evAnd G Φ (.cons e es) env = (tst (evX G Φ e true env)).bind fun p => if p.1 then evAnd G Φ es p.2 else some (false, p.2) := nd rfl
theorem O_nil : evOr G Φ .nil env = some (false, env) := nd rfl
theorem O_cons {e : E} {es : Es} : evOr G Φ (.cons e es) env = (tst (evX G Φ e true env)).bind fun p => if p.1 then some (true, p.2) else evOr G Φ es p.2 := nd rfl
theorem S_asg {i : Nat} {e : E} : exS G Φ (.asg i e) env = (evX G Φ e false env).bind fun p => (bindR p.2 i p.1).map fun env => (.next, env) := nd rfl
theorem S_asgT {is : List Nat} {e : E} : exS G Φ (.asgT is e) env = (evX G Φ e false env).bind fun p => (pk p.2 p.1).bind fun d => (bindT p.2 (.tp is) d).map fun env => (.next, env) := nd rfl
theorem S_par {is : List Nat} {es : Es} : exS G Φ (.par is es) env = (evRs G Φ es env).bind fun p => (unref p.2 p.1).bind fun q => (bindRs q.2 is q.1).map fun env => (.next, env) := nd rfl
theorem S_setI {i : Nat} {ix e : E} : exS G Φ (.setI i ix e) env = (evX G Φ e false env).bind fun p => (fz p.2 p.1).bind fun q => match get q.2 i with
    | .cell _ => (evX G Φ ix false q.2).bind fun s => (pk s.2 s.1).bind fun y => (intD y).bind fun k => (setL s.2 i k q.1).map fun env => (.next, env)
    | _ => none := nd rfl
def augC (op : Bop) (i : Nat) (y : D) (env : Env) : Option (Out × Env) := match op, get env i, y with
    | .add, .cell xs, .vl ys => (lim (xs ++ ys)).map fun zs => (.next, env.set i (.cell zs))
    | _, _, _ => none
theorem S_aug {op : Bop} {i : Nat} {e : E} : exS G Φ (.aug op i e) env = match get env i with
    | .val x => (evX G Φ e false env).bind fun p => (pk p.2 p.1).bind fun y => (binI op x y).bind fun r => (bindR p.2 i r).map fun env => (.next, env)
    | .cell _ => (evX G Φ e false env).bind fun p => (pk p.2 p.1).bind fun y => augC op i y p.2
    | _ => none := nd rfl
theorem S_app {i : Nat} {e : E} : exS G Φ (.app i e) env = match get env i with
    | .cell _ => (evX G Φ e false env).bind fun p => (fz p.2 p.1).bind fun q => (appL q.2 i q.1).map fun env => (.next, env)
    | _ => none := nd rfl
theorem S_revI {i : Nat} : exS G Φ (.revI i) env = match get env i with
    | .cell xs => some (.next, env.set i (.cell xs.reverse))
    | _ => none := nd rfl
theorem S_expr {e : E} : exS G Φ (.expr e) env = (evX G Φ e false env).map fun p => (.next, p.2) := nd rfl
theorem S_ret {e : E} : exS G Φ (.ret e) env = (evX G Φ e false env).map fun p => (.ret p.1, p.2) := nd rfl
theorem S_retN : exS G Φ .retN env = some (.ret (.val .non), env) := nd rfl
theorem S_ite {c : E} {a b : Ss} : exS G Φ (.ite c a b) env = (tst (evX G Φ c true env)).bind fun p => if p.1 then exSs G Φ a p.2 else exSs G Φ b p.2 := nd rfl
theorem S_for {t : T} {it : E} {b : Ss} : exS G Φ (.for t it b) env = (evX G Φ it false env).bind fun p => (itR p.2 p.1).bind fun q => (forE G Φ t b q.1 q.2.1).map fun s => (s.1, unlock s.2 q.2.2) := by
  show ((evIt G Φ it env).bind _) = _
  unfold evIt
  cases evX G Φ it false env <;> rfl
theorem S_while {c : E} {b : Ss} : exS G Φ (.while c b) env = whE G Φ c b env := nd rfl
theorem S_brk : exS G Φ .brk env = some (.brk, env) := nd rfl
theorem S_pass : exS G Φ .pass env = some (.next, env) := nd rfl
theorem S_kill {ks : List Nat} : exS G Φ (.kill ks) env = some (.next, wipe env ks) := nd rfl
theorem Ss_nil : exSs G Φ .nil env = some (.next, env) := nd rfl
theorem Ss_cons {s : S} {ss : Ss} : exSs G Φ (.cons s ss) env = (exS G Φ s env).bind fun p => match p.1 with
    | .next => exSs G Φ ss p.2
    | o => some (o, p.2) := nd rfl
end
local macro_rules | `(tactic| wtm_at "m") => `(tactic| simp only [outB_0, outB_1, outB_2, outB_3, outB_4, outB_5, outB_6, outB_7, outB_8, eq_ss, eq_nn, X_non, X_bl, T_bl, X_int, X_str, X_var, T_var, X_gl, X_tup, X_lst, X_bin, X_neg, X_cmp, T_cmp, X_chain, T_chain, X_isN, T_isN, X_isB, T_isB, X_ite, X_idx, T_idx, X_slT, X_slF, X_slB, X_rev, X_call, T_call, X_bi, T_bi, X_pop, X_popAt, X_rng, X_comp, X_compIf, T_bin, X_not, T_not, X_and, T_and, X_or, T_or, V_nil, V_cons, R_nil, R_cons, AV_nil, AV_cons, OV_nil, OV_cons, A_nil, A_cons, O_nil, O_cons, S_asg, S_asgT, S_par, S_setI, S_aug, S_app, S_revI, S_expr, S_ret, S_retN, S_ite, S_for, S_while, S_brk, S_pass, S_kill, Ss_nil, Ss_cons, W_some, W_none, W_bind, W_map, W_ite, W_lim, get0, getS, List.set_cons_zero, List.set_cons_succ, fin_f, fin_t, tst_eq, blR_bl, pk_val, pk_own, pk_ref, fz_val, fz_own, fz_ref, bindR_val, bindR_own, bindR_ref, intD_int, tru_bl, tru_int, tru_vl, tru_tup, tru_fl, tru_non, pks, bindT, setAll, bindRs, unref, wipe, unlock, itR, callB, refs, argB, argB1, backB, back1, noRef, augC, add_i, sub_i, mul_i, fdiv_i, mod_i, pow_i, add_t, add_l, mul_l, badd_i, bsub_i, bmul_i, bfdiv_i, c_eq, c_ne, c_lt, c_le, c_gt, c_ge, c_in_t, c_in_l, c_nin_t, c_nin_l, dok_l, dok_r, dep_int, dep_bl, dep_non, dep_str, eq_ii, eq_bb, b_len_t, b_len_v, b_len_f, b_tup_t, b_tup_v, b_tup_f, b_lst_t, b_lst_v, b_lst_f, b_min2, b_max2, b_abs, b_int_i, b_int_b, b_isB, b_isI, b_isS, b_isT, b_sum_v, b_sum_t, b_any_v, b_all_v, r1, r2, ix_t, ix_v, ix_f, popL, appL, setL, outR_val, outR_own, outR_ref, List.nodup_nil, List.nodup_cons, List.not_mem_nil, not_false_eq_true, and_self, if_true, Bool.false_eq_true, if_false, List.mem_cons, or_false, true_and, and_true, decide_eq_true_eq, beq_iff_eq, Option.map_some, Option.bind_some, List.length_map, List.nil_append, List.cons_append, List.replicate, Nat.reduceSub, Nat.reduceAdd, List.length_cons, List.length_nil])

def f_take : Fn := ⟨2, 2, [],
(.cons (.ite (.cmp .eq (.bi .len (.cons (.var 0) .nil)) (.int 0))
(.cons (.ret (.int 0))
.nil)
.nil)
(.cons (.ret (.bin .mod (.bi .int (.cons (.pop 0) .nil)) (.var 1)))
.nil))⟩
theorem take_ok {G : List D} {P : List Fn} {n f : Nat} (h : P[f]? = some f_take) (l : List Int) (m : Int) (hm : 0 < m) :
    ∃ (v : Int) (l' : List Int), callF G P (n + 1) f [.cell (l.map D.int), .val (.int m)] = some (.val (.int v), [.cell (l'.map D.int), .val (.int m)]) ∧ 0 ≤ v ∧ v < m := by
  rw [callF_succ h]
  rcases List.eq_nil_or_concat l with rfl | ⟨l', x, rfl⟩
  · refine ⟨0, [], W.get (run_ok rfl rfl ?_), by omega, hm⟩
    wtm_at "m"
    exact ⟨fun _ => rfl, fun h => absurd rfl h⟩
  · refine ⟨x.fmod m, l', W.get (run_ok rfl rfl ?_), Int.fmod_nonneg_of_pos x hm, Int.fmod_lt_of_pos x hm⟩
    wtm_at "m"
    refine ⟨fun h => by simp at h; omega, fun _ => ⟨.int x, by simp, ?_⟩⟩
    wtm_at "m"
    refine ⟨fun _ => ?_, fun h => h (by omega)⟩
    simp [outB, get0, getS, List.range, List.range.loop]
end PL

/-! Plain laws: loops, comprehensions, what all laws share. -/
namespace PL
open Mini
local macro_rules | `(tactic| wtm_at "m") => `(tactic| simp only [true_implies, false_implies, implies_true, not_true_eq_false, ne_eq, Int.reduceEq, Int.reduceNeg, Int.reduceToNat, reduceCtorEq, Bool.not_true, Bool.not_false, Classical.not_not, Int.toNat_natCast, MS.rngList_len, Nat.zero_le, List.contains_nil, Bool.and_true, Bool.true_and, Bool.and_false, Bool.false_and, List.map_nil, List.append_nil, Nat.reduceLT, Nat.reduceLeDiff, Int.reduceLT, Int.reduceLE, Nat.reduceMul, Int.reduceMul, Int.reduceAdd, Int.reduceSub, List.length_cons, List.length_nil, Nat.reduceAdd, Nat.reduceSub, Nat.zero_add, List.getElem?_cons_zero, List.getElem?_cons_succ, List.contains_cons, Nat.reduceBEq, Bool.or_false, Bool.or_true, Bool.false_or, outB_0, outB_1, outB_2, outB_3, outB_4, outB_5, outB_6, outB_7, outB_8, eq_ss, eq_nn, X_non, X_bl, T_bl, X_int, X_str, X_var, T_var, X_gl, X_tup, X_lst, X_bin, X_neg, X_cmp, T_cmp, X_chain, T_chain, X_isN, T_isN, X_isB, T_isB, X_ite, X_idx, T_idx, X_slT, X_slF, X_slB, X_rev, X_call, T_call, X_bi, T_bi, X_pop, X_popAt, X_rng, X_comp, X_compIf, T_bin, X_not, T_not, X_and, T_and, X_or, T_or, V_nil, V_cons, R_nil, R_cons, AV_nil, AV_cons, OV_nil, OV_cons, A_nil, A_cons, O_nil, O_cons, S_asg, S_asgT, S_par, S_setI, S_aug, S_app, S_revI, S_expr, S_ret, S_retN, S_ite, S_for, S_while, S_brk, S_pass, S_kill, Ss_nil, Ss_cons, W_some, W_none, W_bind, W_map, W_ite, W_lim, get0, getS, List.set_cons_zero, List.set_cons_succ, fin_f, fin_t, tst_eq, blR_bl, pk_val, pk_own, pk_ref, fz_val, fz_own, fz_ref, bindR_val, bindR_own, bindR_ref, intD_int, tru_bl, tru_int, tru_vl, tru_tup, tru_fl, tru_non, pks, bindT, setAll, bindRs, unref, wipe, unlock, itR, callB, refs, argB, argB1, backB, back1, noRef, augC, add_i, sub_i, mul_i, fdiv_i, mod_i, pow_i, add_t, add_l, mul_l, badd_i, bsub_i, bmul_i, bfdiv_i, c_eq, c_ne, c_lt, c_le, c_gt, c_ge, c_in_t, c_in_l, c_nin_t, c_nin_l, dok_l, dok_r, dep_int, dep_bl, dep_non, dep_str, eq_ii, eq_bb, b_len_t, b_len_v, b_len_f, b_tup_t, b_tup_v, b_tup_f, b_lst_t, b_lst_v, b_lst_f, b_min2, b_max2, b_abs, b_int_i, b_int_b, b_isB, b_isI, b_isS, b_isT, b_sum_v, b_sum_t, b_any_v, b_all_v, r1, r2, ix_t, ix_v, ix_f, popL, appL, setL, outR_val, outR_own, outR_ref, List.nodup_nil, List.nodup_cons, List.not_mem_nil, not_false_eq_true, and_self, if_true, Bool.false_eq_true, if_false, List.mem_cons, or_false, true_and, and_true, decide_eq_true_eq, beq_iff_eq, Option.map_some, Option.bind_some, List.length_map, List.nil_append, List.cons_append, List.replicate])
local macro_rules | `(tactic| wtm_at "s") => `(tactic| simp [List.length_cons, List.length_nil, Nat.reduceAdd, Nat.reduceSub, Nat.zero_add, List.getElem?_cons_zero, List.getElem?_cons_succ, List.contains_cons, Nat.reduceBEq, Bool.or_false, Bool.or_true, Bool.false_or, outB_0, outB_1, outB_2, outB_3, outB_4, outB_5, outB_6, outB_7, outB_8, eq_ss, eq_nn, X_non, X_bl, T_bl, X_int, X_str, X_var, T_var, X_gl, X_tup, X_lst, X_bin, X_neg, X_cmp, T_cmp, X_chain, T_chain, X_isN, T_isN, X_isB, T_isB, X_ite, X_idx, T_idx, X_slT, X_slF, X_slB, X_rev, X_call, T_call, X_bi, T_bi, X_pop, X_popAt, X_rng, X_comp, X_compIf, T_bin, X_not, T_not, X_and, T_and, X_or, T_or, V_nil, V_cons, R_nil, R_cons, AV_nil, AV_cons, OV_nil, OV_cons, A_nil, A_cons, O_nil, O_cons, S_asg, S_asgT, S_par, S_setI, S_aug, S_app, S_revI, S_expr, S_ret, S_retN, S_ite, S_for, S_while, S_brk, S_pass, S_kill, Ss_nil, Ss_cons, W_some, MS.rngList_len, W_none, W_bind, W_map, W_ite, W_lim, get0, getS, List.set_cons_zero, List.set_cons_succ, fin_f, fin_t, tst_eq, blR_bl, pk_val, pk_own, pk_ref, fz_val, fz_own, fz_ref, bindR_val, bindR_own, bindR_ref, intD_int, tru_bl, tru_int, tru_vl, tru_tup, tru_fl, tru_non, pks, bindT, setAll, bindRs, unref, wipe, unlock, itR, callB, refs, argB, argB1, backB, back1, noRef, augC, add_i, sub_i, mul_i, fdiv_i, mod_i, pow_i, add_t, add_l, mul_l, badd_i, bsub_i, bmul_i, bfdiv_i, c_eq, c_ne, c_lt, c_le, c_gt, c_ge, c_in_t, c_in_l, c_nin_t, c_nin_l, dok_l, dok_r, dep_int, dep_bl, dep_non, dep_str, eq_ii, eq_bb, b_len_t, b_len_v, b_len_f, b_tup_t, b_tup_v, b_tup_f, b_lst_t, b_lst_v, b_lst_f, b_min2, b_max2, b_abs, b_int_i, b_int_b, b_isB, b_isI, b_isS, b_isT, b_sum_v, b_sum_t, b_any_v, b_all_v, r1, r2, ix_t, ix_v, ix_f, popL, appL, setL, outR_val, outR_own, outR_ref, List.nodup_nil, List.nodup_cons, List.not_mem_nil, not_false_eq_true, and_self, if_true, Bool.false_eq_true, if_false, List.mem_cons, or_false, true_and, and_true, decide_eq_true_eq, beq_iff_eq, Option.map_some, Option.bind_some, List.length_map, List.nil_append, List.cons_append, List.replicate])
theorem env_ext {a b : Env} (hl : a.length = b.length) (h : ∀ i, get a i = get b i) : a = b := by
  apply List.ext_getElem hl
  intro i h1 h2
  have := h i
  unfold Mini.get at this
  rw [List.getD_eq_getElem?_getD, List.getD_eq_getElem?_getD, List.getElem?_eq_getElem h1, List.getElem?_eq_getElem h2] at this
  exact this
theorem restore_wipe {old e : Env} {own : List Nat} (h : old.length = e.length) : restore old e own = restore old (wipe e own) own := by
  apply env_ext
  · rw [MS.restore_len, MS.restore_len, MS.wipe_length]
  · intro i
    rw [MS.get_restore h, MS.get_restore (by rw [MS.wipe_length]; exact h), MS.get_wipe]
    split <;> rfl
theorem restore_same {env e : Env} {own : List Nat} (h : wipe e own = wipe env own) : restore env e own = env := by
  have hl : env.length = e.length := by
    have := congrArg List.length h
    rw [MS.wipe_length, MS.wipe_length] at this
    exact this.symm
  apply env_ext
  · rw [MS.restore_len]; exact hl.symm
  · intro i
    rw [MS.get_restore hl]
    by_cases hi : i ∈ own
    · rw [if_pos hi]
    · rw [if_neg hi]
      have := congrArg (fun z => get z i) h
      simpa [MS.get_wipe, hi] using this
theorem restore_of {env e w : Env} {own : List Nat} (h : wipe e own = w) (hl : w.length = env.length) : restore env e own = restore env w own := by
  have : env.length = e.length := by rw [← hl, ← h, MS.wipe_length]
  rw [restore_wipe this, h]
section
variable {G : List D} {Φ : Calls}
/-- a comprehension that changes nothing -/
theorem W_cmp {own : List Nat} {elt : E} {t : T} {xs : List D} {env : Env} {Q : List D × Env → Prop} (g : D → D)
    (hs : ∀ x ∈ xs, W ((bindT (wipe env own) t x).bind fun e => (evX G Φ elt false e).bind fun p => fz p.2 p.1) fun p => p.1 = g x ∧ wipe p.2 own = wipe env own)
    (q : ∀ e, restore env e own = env → Q (xs.map g, e)) : W (cmpL G Φ own elt t xs env) Q := by
  have key : ∀ (xs : List D) (e : Env), (∀ x ∈ xs, W ((bindT (wipe env own) t x).bind fun e => (evX G Φ elt false e).bind fun p => fz p.2 p.1) fun p => p.1 = g x ∧ wipe p.2 own = wipe env own) → wipe e own = wipe env own → ∃ e', cmpL G Φ own elt t xs e = some (xs.map g, e') ∧ wipe e' own = wipe env own := by
    intro xs
    induction xs with
    | nil => intro e _ he; exact ⟨e, rfl, he⟩
    | cons x xs ih =>
      intro e h he
      obtain ⟨⟨d, e1⟩, h1, rfl, h2⟩ := h x (List.mem_cons_self ..)
      obtain ⟨e', h3, h4⟩ := ih e1 (fun y hy => h y (List.mem_cons_of_mem _ hy)) h2
      refine ⟨e', ?_, h4⟩
      unfold cmpL at h3 ⊢
      rw [compL, he]
      have : ((bindT (wipe env own) t x).bind fun e => (evX G Φ elt false e).bind fun (r, e) => fz e r) = some (g x, e1) := h1
      rw [this, Option.bind_some]
      dsimp only
      rw [h3]
      rfl
  obtain ⟨e', h1, h2⟩ := key xs env hs rfl
  exact ⟨_, h1, q e' (restore_same h2)⟩
/-- a comprehension with a state -/
theorem W_cmpS {own : List Nat} {elt : E} {t : T} {xs : List D} {env : Env} {Q : List D × Env → Prop} (I : List D → Env → Prop) (h0 : I [] (wipe env own))
    (hs : ∀ i x out w, xs[i]? = some x → out.length = i → I out w → W ((bindT w t x).bind fun e => (evX G Φ elt false e).bind fun p => fz p.2 p.1) fun p => I (out ++ [p.1]) (wipe p.2 own))
    (q : ∀ out e, out.length = xs.length → I out (wipe e own) → Q (out, e)) : W (cmpL G Φ own elt t xs env) Q := by
  have key : ∀ (rest : List D) (done : Nat) (out : List D) (e : Env), xs.drop done = rest → out.length = done → I out (wipe e own) → ∃ o e', cmpL G Φ own elt t rest e = some (o, e') ∧ (out ++ o).length = done + rest.length ∧ I (out ++ o) (wipe e' own) := by
    intro rest
    induction rest with
    | nil => intro done out e _ hl h; exact ⟨[], e, rfl, by simpa using hl, by simpa using h⟩
    | cons x rest ih =>
      intro done out e hd hl h
      have hx : xs[done]? = some x := by
        have := congrArg (fun l => l[0]?) hd
        simpa using this
      obtain ⟨⟨d, e1⟩, h1, h2⟩ := hs done x out _ hx hl h
      obtain ⟨o, e', h3, h4, h5⟩ := ih (done + 1) (out ++ [d]) e1 (by rw [← List.drop_drop, hd]; rfl) (by simp [hl]) h2
      refine ⟨d :: o, e', ?_, by simpa [Nat.add_comm, Nat.add_left_comm, Nat.add_assoc] using h4, by simpa using h5⟩
      unfold cmpL at h3 ⊢
      rw [compL]
      have : ((bindT (wipe e own) t x).bind fun e => (evX G Φ elt false e).bind fun (r, e) => fz e r) = some (d, e1) := h1
      rw [this, Option.bind_some]
      dsimp only
      rw [h3]
      rfl
  obtain ⟨o, e', h1, h2, h3⟩ := key xs 0 [] env rfl rfl h0
  exact ⟨_, h1, q o e' (by simpa using h2) (by simpa using h3)⟩
/-- a filtered comprehension that changes nothing -/
theorem W_cmpIf {own : List Nat} {elt cc : E} {t : T} {xs : List D} {env : Env} {Q : List D × Env → Prop} (c : D → Bool) (g : D → D)
    (hs : ∀ x ∈ xs, W ((bindT (wipe env own) t x).bind fun e => tst (evX G Φ cc true e)) fun p => p.1 = c x ∧ (c x = true → W ((evX G Φ elt false p.2).bind fun p => fz p.2 p.1) fun p => p.1 = g x ∧ wipe p.2 own = wipe env own) ∧ (c x = false → wipe p.2 own = wipe env own))
    (q : ∀ e, restore env e own = env → Q ((xs.filter c).map g, e)) : W (cmpIfL G Φ own elt t cc xs env) Q := by
  have key : ∀ (xs : List D) (e : Env), (∀ x ∈ xs, W ((bindT (wipe env own) t x).bind fun e => tst (evX G Φ cc true e)) fun p => p.1 = c x ∧ (c x = true → W ((evX G Φ elt false p.2).bind fun p => fz p.2 p.1) fun p => p.1 = g x ∧ wipe p.2 own = wipe env own) ∧ (c x = false → wipe p.2 own = wipe env own)) → wipe e own = wipe env own → ∃ e', cmpIfL G Φ own elt t cc xs e = some ((xs.filter c).map g, e') ∧ wipe e' own = wipe env own := by
    intro xs
    induction xs with
    | nil => intro e _ he; exact ⟨e, rfl, he⟩
    | cons x xs ih =>
      intro e h he
      obtain ⟨⟨k, e1⟩, h1, rfl, h2, h2'⟩ := h x (List.mem_cons_self ..)
      have h1' : ((bindT (wipe env own) t x).bind fun e => tst (evX G Φ cc true e)) = some (c x, e1) := h1
      cases hc : c x with
      | true =>
        obtain ⟨⟨d, e2⟩, h3, rfl, h4⟩ := h2 hc
        have h3' : ((evX G Φ elt false e1).bind fun (r, e) => fz e r) = some (g x, e2) := h3
        obtain ⟨e', h5, h6⟩ := ih e2 (fun y hy => h y (List.mem_cons_of_mem _ hy)) h4
        refine ⟨e', ?_, h6⟩
        unfold cmpIfL at h5 ⊢
        rw [compIfL, he, h1', Option.bind_some]
        dsimp only
        rw [hc, if_pos rfl, h3', Option.bind_some]
        dsimp only
        rw [h5, List.filter_cons_of_pos hc]
        rfl
      | false =>
        obtain ⟨e', h5, h6⟩ := ih e1 (fun y hy => h y (List.mem_cons_of_mem _ hy)) (h2' hc)
        refine ⟨e', ?_, h6⟩
        unfold cmpIfL at h5 ⊢
        rw [compIfL, he, h1', Option.bind_some]
        dsimp only
        rw [hc, if_neg (by simp), h5, List.filter_cons_of_neg (by simp [hc])]
  obtain ⟨e', h1, h2⟩ := key xs env hs rfl
  exact ⟨_, h1, q e' (restore_same h2)⟩
/-- a loop -/
theorem W_for {t : T} {b : Ss} {xs : List D} {env : Env} {Q : Out × Env → Prop} (I : Nat → Env → Prop) (h0 : I 0 env)
    (hs : ∀ i x e, xs[i]? = some x → I i e → W ((bindT e t x).bind fun e => exSs G Φ b e) fun p => match p.1 with
      | .next => I (i + 1) p.2
      | .brk => Q (.next, p.2)
      | .ret r => Q (.ret r, p.2))
    (q : ∀ e, I xs.length e → Q (.next, e)) : W (forE G Φ t b xs env) Q := by
  have key : ∀ (rest : List D) (done : Nat) (e : Env), xs.drop done = rest → done + rest.length = xs.length → I done e → W (forE G Φ t b rest e) Q := by
    intro rest
    induction rest with
    | nil => intro done e hd hl h; exact ⟨_, rfl, q e (by simpa [← hl] using h)⟩
    | cons x rest ih =>
      intro done e hd hl h
      have hx : xs[done]? = some x := by
        have := congrArg (fun l => l[0]?) hd
        simpa using this
      obtain ⟨⟨o, e1⟩, h1, h2⟩ := hs done x e hx h
      unfold forE
      rw [forL, h1, Option.bind_some]
      cases o with
      | next => exact ih (done + 1) e1 (by rw [← List.drop_drop, hd]; rfl) (by simp at hl; omega) h2
      | brk => exact ⟨_, rfl, h2⟩
      | ret r => exact ⟨_, rfl, h2⟩
  exact key xs 0 env rfl (by simp) h0
/-- a loop whose state is told by a fold -/
theorem W_fold {σ : Type} {t : T} {b : Ss} {xs : List D} {env : Env} {Q : Out × Env → Prop} (E : σ → Env) (s0 : σ) (f : σ → D → σ) (h0 : env = E s0)
    (hs : ∀ s x, x ∈ xs → W ((bindT (E s) t x).bind fun e => exSs G Φ b e) fun p => p.1 = .next ∧ p.2 = E (f s x))
    (q : Q (.next, E (xs.foldl f s0))) : W (forE G Φ t b xs env) Q := by
  subst h0
  have key : ∀ (xs : List D) (s : σ), (∀ s x, x ∈ xs → W ((bindT (E s) t x).bind fun e => exSs G Φ b e) fun p => p.1 = .next ∧ p.2 = E (f s x)) → forE G Φ t b xs (E s) = some (.next, E (xs.foldl f s)) := by
    intro xs
    induction xs with
    | nil => intro s _; rfl
    | cons x xs ih =>
      intro s h
      obtain ⟨⟨o, e1⟩, h1, rfl, rfl⟩ := h s x (List.mem_cons_self ..)
      have := ih (f s x) fun s y hy => h s y (List.mem_cons_of_mem _ hy)
      unfold forE at this ⊢
      rw [forL, h1, Option.bind_some]
      exact this
  exact ⟨_, key xs s0 hs, q⟩
end
theorem rng_at {lo : Int} {n i : Nat} {x : D} (h : (rngList lo n 1)[i]? = some x) : x = .int (lo + i) ∧ i < n := by
  have hi : i < n := by
    have := (List.getElem?_eq_some_iff.mp h).1
    rw [MS.rngList_len] at this; exact this
  rw [MS.rngList_get hi] at h
  cases h
  exact ⟨by rw [Int.mul_one], hi⟩
theorem rng_mem {lo : Int} {n : Nat} {x : D} (h : x ∈ rngList lo n 1) : ∃ i : Nat, i < n ∧ x = .int (lo + i) := by
  obtain ⟨i, hi⟩ := List.mem_iff_getElem?.mp h
  obtain ⟨e, l⟩ := rng_at hi
  exact ⟨i, l, e⟩
theorem rng_map {α : Type} {lo : Int} {n : Nat} (g : D → α) : (rngList lo n 1).map g = (List.range n).map fun i => g (.int (lo + (i : Nat))) := by
  unfold rngList
  rw [List.map_map]
  apply List.map_congr_left
  intro i _
  show g (.int (lo + i * 1)) = _
  rw [Int.mul_one]
theorem ixW {xs : List D} {i : Int} {Q : D → Prop} (h : 0 ≤ i) {x : D} (hx : xs[i.toNat]? = some x) (q : Q x) : W (ixP xs.length i) fun k => W (xs[k]?) Q := by
  have := ixS h hx q
  rw [W_bind] at this
  exact this
theorem ixN {xs : List D} {i : Nat} {Q : D → Prop} {x : D} (hx : xs[i]? = some x) (q : Q x) : W (ixP xs.length (i : Int)) fun k => W (xs[k]?) Q := ixW (by omega) (by simpa using hx) q
theorem rngOk_of {i : Int} (h1 : -1000000000 ≤ i) (h2 : i ≤ 1000000000) : rngOk i = true := by
  unfold rngOk
  exact decide_eq_true (by omega)
theorem LIM_val : LIM = 16777216 := rfl
theorem mulOk_r {i j : Int} (h : j.natAbs < 2 ^ 64) : mulOk i j = true := by
  unfold mulOk
  rw [decide_eq_true h, Bool.or_true, Bool.true_or]
theorem mulOk_l {i j : Int} (h : i.natAbs < 2 ^ 64) : mulOk i j = true := by
  unfold mulOk
  rw [decide_eq_true h, Bool.true_or, Bool.true_or]
theorem divOk_of {j : Int} (h : j ≠ 0) (h2 : j.natAbs < 2 ^ 64) : divOk j = true := by
  unfold divOk
  rw [decide_eq_true h, Bool.true_and]
  refine decide_eq_true (Nat.lt_of_lt_of_le h2 ?_)
  exact Nat.pow_le_pow_right (by decide) (by decide)
theorem powOk_of {i j : Int} (h0 : 0 ≤ j) (h1 : j ≤ 1000000) (h : i.natAbs < 2 ^ 64) : powOk i j = true := by
  unfold powOk
  rw [decide_eq_true h0, decide_eq_true h1, decide_eq_true h]; rfl
/-- a plain value: no lists in it -/
def flatD : D → Bool
  | .non => true
  | .bl _ => true
  | .int _ => true
  | .str _ => true
  | .tup xs => flats xs && decide (xs.length ≤ 1000000)
  | _ => false
where flats : List D → Bool
  | [] => true
  | x :: xs => flatD x && flats xs
theorem flats_get {xs : List D} (h : flatD.flats xs = true) : ∀ {i : Nat} {x : D}, xs[i]? = some x → flatD x = true := by
  induction xs with
  | nil => intro i x e; simp at e
  | cons y ys ih =>
    intro i x e
    simp only [flatD.flats, Bool.and_eq_true] at h
    cases i with
    | zero => simp at e; rw [← e]; exact h.1
    | succ i => exact ih h.2 (by simpa using e)
theorem depDs_get {xs : List D} : ∀ {i : Nat} {x : D}, xs[i]? = some x → depD x ≤ depDs xs := by
  induction xs with
  | nil => intro i x e; simp at e
  | cons y ys ih =>
    intro i x e
    show _ ≤ max (depD y) (depDs ys)
    cases i with
    | zero => simp at e; rw [← e]; omega
    | succ i => have := ih (i := i) (x := x) (by simpa using e); omega
def f_sameA (f : Nat) : Fn := ⟨2, 3, [],
(.cons (.ite (.bi .isBool (.cons (.var 1) .nil))
(.cons (.ret (.and (.cons (.bi .isBool (.cons (.var 0) .nil)) (.cons (.cmp .eq (.var 0) (.var 1)) .nil))))
.nil)
.nil)
(.cons (.ite (.bi .isInt (.cons (.var 1) .nil))
(.cons (.ret (.and (.cons (.bi .isInt (.cons (.var 0) .nil)) (.cons (.not (.bi .isBool (.cons (.var 0) .nil))) (.cons (.cmp .eq (.var 0) (.var 1)) .nil)))))
.nil)
.nil)
(.cons (.ite (.bi .isStr (.cons (.var 1) .nil))
(.cons (.ret (.and (.cons (.bi .isStr (.cons (.var 0) .nil)) (.cons (.cmp .eq (.var 0) (.var 1)) .nil))))
.nil)
.nil)
(.cons (.ite (.isN (.var 1) true)
(.cons (.ret (.isN (.var 0) true))
.nil)
.nil)
(.cons (.ite (.or (.cons (.not (.bi .isTuple (.cons (.var 0) .nil))) (.cons (.cmp .ne (.bi .len (.cons (.var 0) .nil)) (.bi .len (.cons (.var 1) .nil))) .nil)))
(.cons (.ret (.bl false))
.nil)
.nil)
(.cons (.for (.nm 2) (.rng (.cons (.bi .len (.cons (.var 1) .nil)) .nil))
(.cons (.ite (.not (.call f (.cons (.idx (.var 0) (.var 2)) (.cons (.idx (.var 1) (.var 2)) .nil))))
(.cons (.ret (.bl false))
.nil)
.nil)
(.cons (.kill [2])
.nil)))
(.cons (.ret (.bl true))
.nil)))))))⟩
def f_sameB (f : Nat) : Fn := ⟨2, 3, [],
(.cons (.ite (.isN (.var 1) true)
(.cons (.ret (.isN (.var 0) true))
.nil)
.nil)
(.cons (.ite (.bi .isBool (.cons (.var 1) .nil))
(.cons (.ret (.and (.cons (.bi .isBool (.cons (.var 0) .nil)) (.cons (.cmp .eq (.var 0) (.var 1)) .nil))))
.nil)
.nil)
(.cons (.ite (.bi .isInt (.cons (.var 1) .nil))
(.cons (.ret (.and (.cons (.bi .isInt (.cons (.var 0) .nil)) (.cons (.not (.bi .isBool (.cons (.var 0) .nil))) (.cons (.cmp .eq (.var 0) (.var 1)) .nil)))))
.nil)
.nil)
(.cons (.ite (.bi .isStr (.cons (.var 1) .nil))
(.cons (.ret (.and (.cons (.bi .isStr (.cons (.var 0) .nil)) (.cons (.cmp .eq (.var 0) (.var 1)) .nil))))
.nil)
.nil)
(.cons (.ite (.or (.cons (.not (.bi .isTuple (.cons (.var 0) .nil))) (.cons (.cmp .ne (.bi .len (.cons (.var 0) .nil)) (.bi .len (.cons (.var 1) .nil))) .nil)))
(.cons (.ret (.bl false))
.nil)
.nil)
(.cons (.for (.nm 2) (.rng (.cons (.bi .len (.cons (.var 1) .nil)) .nil))
(.cons (.ite (.not (.call f (.cons (.idx (.var 0) (.var 2)) (.cons (.idx (.var 1) (.var 2)) .nil))))
(.cons (.ret (.bl false))
.nil)
.nil)
(.cons (.kill [2])
.nil)))
(.cons (.ret (.bl true))
.nil)))))))⟩
theorem flat_tup {xs : List D} (h : flatD (.tup xs) = true) : flatD.flats xs = true ∧ xs.length ≤ 1000000 := by
  simp only [flatD, Bool.and_eq_true, decide_eq_true_eq] at h
  exact h
def sameLoop (f : Nat) : Ss := .cons (.ite (.not (.call f (.cons (.idx (.var 0) (.var 2)) (.cons (.idx (.var 1) (.var 2)) .nil)))) (.cons (.ret (.bl false)) .nil) .nil) (.cons (.kill [2]) .nil)
theorem same_loop {G : List D} {Φ : Calls} {f : Nat} {xs : List D} {Q : Out × Env → Prop} (ih : ∀ (i : Nat) (h : i < xs.length), Φ f [.val xs[i], .val xs[i]] = some (.val (.bl true), [.val xs[i], .val xs[i]])) (q : Q (.next, [.val (.tup xs), .val (.tup xs), .no])) :
    W (forE G Φ (.nm 2) (sameLoop f) (rngList 0 xs.length 1) [.val (.tup xs), .val (.tup xs), .no]) Q := by
  refine W_for (fun _ e => e = [.val (.tup xs), .val (.tup xs), .no]) rfl ?_ (by rintro e rfl; exact q)
  rintro i x e hx rfl
  obtain ⟨rfl, hi⟩ := rng_at hx
  have hg : xs[i]? = some xs[i] := List.getElem?_eq_getElem hi
  unfold sameLoop
  wtm_at "s"
  refine ixN hg ?_
  refine ixN hg ?_
  refine W_eq (ih i hi) ?_
  wtm_at "s"
theorem same_leafA {G : List D} {Φ : Calls} {f : Nat} {d : D} (h : (∀ xs, d ≠ .tup xs) ∧ (∀ xs, d ≠ .vl xs) ∧ ∀ xs, d ≠ .fl xs) : runFn G Φ (f_sameA f) [.val d, .val d] = some (.val (.bl true), [.val d, .val d]) := by
  unfold f_sameA
  cases d with
  | tup xs => exact absurd rfl (h.1 xs)
  | vl xs => exact absurd rfl (h.2.1 xs)
  | fl xs => exact absurd rfl (h.2.2 xs)
  | _ => exact W.get (run_ok rfl rfl (by wtm_at "s"))
theorem same_leafB {G : List D} {Φ : Calls} {f : Nat} {d : D} (h : (∀ xs, d ≠ .tup xs) ∧ (∀ xs, d ≠ .vl xs) ∧ ∀ xs, d ≠ .fl xs) : runFn G Φ (f_sameB f) [.val d, .val d] = some (.val (.bl true), [.val d, .val d]) := by
  unfold f_sameB
  cases d with
  | tup xs => exact absurd rfl (h.1 xs)
  | vl xs => exact absurd rfl (h.2.1 xs)
  | fl xs => exact absurd rfl (h.2.2 xs)
  | _ => exact W.get (run_ok rfl rfl (by wtm_at "s"))
theorem len_ok {n : Nat} (h : n ≤ 1000000) : rngOk (n : Int) = true ∧ n ≤ LIM := ⟨rngOk_of (by omega) (by omega), by rw [LIM_val]; omega⟩
theorem same_tupA {G : List D} {Φ : Calls} {f : Nat} {xs : List D} (l1 : rngOk (xs.length : Int) = true) (l2 : xs.length ≤ LIM) (ih : ∀ (i : Nat) (h : i < xs.length), Φ f [.val xs[i], .val xs[i]] = some (.val (.bl true), [.val xs[i], .val xs[i]])) : runFn G Φ (f_sameA f) [.val (.tup xs), .val (.tup xs)] = some (.val (.bl true), [.val (.tup xs), .val (.tup xs)]) := by
  unfold f_sameA
  refine W.get (run_ok rfl rfl ?_)
  wtm_at "s"
  refine ⟨fun _ => ⟨l2, same_loop ih ?_⟩, l1⟩
  wtm_at "s"
theorem same_tupB {G : List D} {Φ : Calls} {f : Nat} {xs : List D} (l1 : rngOk (xs.length : Int) = true) (l2 : xs.length ≤ LIM) (ih : ∀ (i : Nat) (h : i < xs.length), Φ f [.val xs[i], .val xs[i]] = some (.val (.bl true), [.val xs[i], .val xs[i]])) : runFn G Φ (f_sameB f) [.val (.tup xs), .val (.tup xs)] = some (.val (.bl true), [.val (.tup xs), .val (.tup xs)]) := by
  unfold f_sameB
  refine W.get (run_ok rfl rfl ?_)
  wtm_at "s"
  refine ⟨fun _ => ⟨l2, same_loop ih ?_⟩, l1⟩
  wtm_at "s"
theorem same_ok {G : List D} {P : List Fn} {f : Nat} (h : P[f]? = some (f_sameA f) ∨ P[f]? = some (f_sameB f)) (n : Nat) : ∀ (d : D), flatD d = true → depD d < n → callF G P n f [.val d, .val d] = some (.val (.bl true), [.val d, .val d]) := by
  induction n with
  | zero => exact fun d _ hn => absurd hn (Nat.not_lt_zero _)
  | succ n ih =>
    intro d hf hn
    have ht : ∀ xs, d = .tup xs → rngOk (xs.length : Int) = true ∧ xs.length ≤ LIM ∧ ∀ (i : Nat) (h : i < xs.length), callF G P n f [.val xs[i], .val xs[i]] = some (.val (.bl true), [.val xs[i], .val xs[i]]) := by
      rintro xs rfl
      obtain ⟨h1, h2⟩ := flat_tup hf
      obtain ⟨l1, l2⟩ := len_ok h2
      have hn' : depDs xs + 1 < n + 1 := hn
      refine ⟨l1, l2, fun i hi => ih _ (flats_get h1 (List.getElem?_eq_getElem hi)) ?_⟩
      have := depDs_get (List.getElem?_eq_getElem hi)
      omega
    have leaf : (∀ xs, d ≠ .tup xs) → (∀ xs, d ≠ .tup xs) ∧ (∀ xs, d ≠ .vl xs) ∧ ∀ xs, d ≠ .fl xs := fun z => ⟨z, fun xs e => (by subst e; cases hf), fun xs e => (by subst e; cases hf)⟩
    rcases h with h | h
    · rw [callF_succ h]
      by_cases z : ∃ xs, d = .tup xs
      · obtain ⟨xs, rfl⟩ := z
        obtain ⟨a, b, c⟩ := ht xs rfl
        exact same_tupA a b c
      · exact same_leafA (leaf fun xs e => z ⟨xs, e⟩)
    · rw [callF_succ h]
      by_cases z : ∃ xs, d = .tup xs
      · obtain ⟨xs, rfl⟩ := z
        obtain ⟨a, b, c⟩ := ht xs rfl
        exact same_tupB a b c
      · exact same_leafB (leaf fun xs e => z ⟨xs, e⟩)
end PL

/-! Plain laws: the draws, the cells. -/
namespace PL
open Mini
local macro_rules | `(tactic| wtm_at "m") => `(tactic| simp only [true_implies, false_implies, implies_true, not_true_eq_false, ne_eq, Int.reduceEq, Int.reduceNeg, Int.reduceToNat, reduceCtorEq, Bool.not_true, Bool.not_false, Classical.not_not, Int.toNat_natCast, MS.rngList_len, Nat.zero_le, List.contains_nil, Bool.and_true, Bool.true_and, Bool.and_false, Bool.false_and, List.map_nil, List.append_nil, Nat.reduceLT, Nat.reduceLeDiff, Int.reduceLT, Int.reduceLE, Nat.reduceMul, Int.reduceMul, Int.reduceAdd, Int.reduceSub, List.length_cons, List.length_nil, Nat.reduceAdd, Nat.reduceSub, Nat.zero_add, List.getElem?_cons_zero, List.getElem?_cons_succ, List.contains_cons, Nat.reduceBEq, Bool.or_false, Bool.or_true, Bool.false_or, outB_0, outB_1, outB_2, outB_3, outB_4, outB_5, outB_6, outB_7, outB_8, eq_ss, eq_nn, X_non, X_bl, T_bl, X_int, X_str, X_var, T_var, X_gl, X_tup, X_lst, X_bin, X_neg, X_cmp, T_cmp, X_chain, T_chain, X_isN, T_isN, X_isB, T_isB, X_ite, X_idx, T_idx, X_slT, X_slF, X_slB, X_rev, X_call, T_call, X_bi, T_bi, X_pop, X_popAt, X_rng, X_comp, X_compIf, T_bin, X_not, T_not, X_and, T_and, X_or, T_or, V_nil, V_cons, R_nil, R_cons, AV_nil, AV_cons, OV_nil, OV_cons, A_nil, A_cons, O_nil, O_cons, S_asg, S_asgT, S_par, S_setI, S_aug, S_app, S_revI, S_expr, S_ret, S_retN, S_ite, S_for, S_while, S_brk, S_pass, S_kill, Ss_nil, Ss_cons, W_some, W_none, W_bind, W_map, W_ite, W_lim, get0, getS, List.set_cons_zero, List.set_cons_succ, fin_f, fin_t, tst_eq, blR_bl, pk_val, pk_own, pk_ref, fz_val, fz_own, fz_ref, bindR_val, bindR_own, bindR_ref, intD_int, tru_bl, tru_int, tru_vl, tru_tup, tru_fl, tru_non, pks, bindT, setAll, bindRs, unref, wipe, unlock, itR, callB, refs, argB, argB1, backB, back1, noRef, augC, add_i, sub_i, mul_i, fdiv_i, mod_i, pow_i, add_t, add_l, mul_l, badd_i, bsub_i, bmul_i, bfdiv_i, c_eq, c_ne, c_lt, c_le, c_gt, c_ge, c_in_t, c_in_l, c_nin_t, c_nin_l, dok_l, dok_r, dep_int, dep_bl, dep_non, dep_str, eq_ii, eq_bb, b_len_t, b_len_v, b_len_f, b_tup_t, b_tup_v, b_tup_f, b_lst_t, b_lst_v, b_lst_f, b_min2, b_max2, b_abs, b_int_i, b_int_b, b_isB, b_isI, b_isS, b_isT, b_sum_v, b_sum_t, b_any_v, b_all_v, r1, r2, ix_t, ix_v, ix_f, popL, appL, setL, outR_val, outR_own, outR_ref, List.nodup_nil, List.nodup_cons, List.not_mem_nil, not_false_eq_true, and_self, if_true, Bool.false_eq_true, if_false, List.mem_cons, or_false, true_and, and_true, decide_eq_true_eq, beq_iff_eq, Option.map_some, Option.bind_some, List.length_map, List.nil_append, List.cons_append, List.replicate])
local macro_rules | `(tactic| wtm_at "s") => `(tactic| simp [List.length_cons, List.length_nil, Nat.reduceAdd, Nat.reduceSub, Nat.zero_add, List.getElem?_cons_zero, List.getElem?_cons_succ, List.contains_cons, Nat.reduceBEq, Bool.or_false, Bool.or_true, Bool.false_or, outB_0, outB_1, outB_2, outB_3, outB_4, outB_5, outB_6, outB_7, outB_8, eq_ss, eq_nn, X_non, X_bl, T_bl, X_int, X_str, X_var, T_var, X_gl, X_tup, X_lst, X_bin, X_neg, X_cmp, T_cmp, X_chain, T_chain, X_isN, T_isN, X_isB, T_isB, X_ite, X_idx, T_idx, X_slT, X_slF, X_slB, X_rev, X_call, T_call, X_bi, T_bi, X_pop, X_popAt, X_rng, X_comp, X_compIf, T_bin, X_not, T_not, X_and, T_and, X_or, T_or, V_nil, V_cons, R_nil, R_cons, AV_nil, AV_cons, OV_nil, OV_cons, A_nil, A_cons, O_nil, O_cons, S_asg, S_asgT, S_par, S_setI, S_aug, S_app, S_revI, S_expr, S_ret, S_retN, S_ite, S_for, S_while, S_brk, S_pass, S_kill, Ss_nil, Ss_cons, W_some, MS.rngList_len, W_none, W_bind, W_map, W_ite, W_lim, get0, getS, List.set_cons_zero, List.set_cons_succ, fin_f, fin_t, tst_eq, blR_bl, pk_val, pk_own, pk_ref, fz_val, fz_own, fz_ref, bindR_val, bindR_own, bindR_ref, intD_int, tru_bl, tru_int, tru_vl, tru_tup, tru_fl, tru_non, pks, bindT, setAll, bindRs, unref, wipe, unlock, itR, callB, refs, argB, argB1, backB, back1, noRef, augC, add_i, sub_i, mul_i, fdiv_i, mod_i, pow_i, add_t, add_l, mul_l, badd_i, bsub_i, bmul_i, bfdiv_i, c_eq, c_ne, c_lt, c_le, c_gt, c_ge, c_in_t, c_in_l, c_nin_t, c_nin_l, dok_l, dok_r, dep_int, dep_bl, dep_non, dep_str, eq_ii, eq_bb, b_len_t, b_len_v, b_len_f, b_tup_t, b_tup_v, b_tup_f, b_lst_t, b_lst_v, b_lst_f, b_min2, b_max2, b_abs, b_int_i, b_int_b, b_isB, b_isI, b_isS, b_isT, b_sum_v, b_sum_t, b_any_v, b_all_v, r1, r2, ix_t, ix_v, ix_f, popL, appL, setL, outR_val, outR_own, outR_ref, List.nodup_nil, List.nodup_cons, List.not_mem_nil, not_false_eq_true, and_self, if_true, Bool.false_eq_true, if_false, List.mem_cons, or_false, true_and, and_true, decide_eq_true_eq, beq_iff_eq, Option.map_some, Option.bind_some, List.length_map, List.nil_append, List.cons_append, List.replicate])

local macro_rules | `(tactic| wtm_at "mx") => `(tactic| simp only [*, true_implies, false_implies, implies_true, not_true_eq_false, ne_eq, Int.reduceEq, Int.reduceNeg, Int.reduceToNat, reduceCtorEq, Bool.not_true, Bool.not_false, Classical.not_not, Int.toNat_natCast, MS.rngList_len, Nat.zero_le, List.contains_nil, Bool.and_true, Bool.true_and, Bool.and_false, Bool.false_and, List.map_nil, List.append_nil, Nat.reduceLT, Nat.reduceLeDiff, Int.reduceLT, Int.reduceLE, Nat.reduceMul, Int.reduceMul, Int.reduceAdd, Int.reduceSub, List.length_cons, List.length_nil, Nat.reduceAdd, Nat.reduceSub, Nat.zero_add, List.getElem?_cons_zero, List.getElem?_cons_succ, List.contains_cons, Nat.reduceBEq, Bool.or_false, Bool.or_true, Bool.false_or, outB_0, outB_1, outB_2, outB_3, outB_4, outB_5, outB_6, outB_7, outB_8, eq_ss, eq_nn, X_non, X_bl, T_bl, X_int, X_str, X_var, T_var, X_gl, X_tup, X_lst, X_bin, X_neg, X_cmp, T_cmp, X_chain, T_chain, X_isN, T_isN, X_isB, T_isB, X_ite, X_idx, T_idx, X_slT, X_slF, X_slB, X_rev, X_call, T_call, X_bi, T_bi, X_pop, X_popAt, X_rng, X_comp, X_compIf, T_bin, X_not, T_not, X_and, T_and, X_or, T_or, V_nil, V_cons, R_nil, R_cons, AV_nil, AV_cons, OV_nil, OV_cons, A_nil, A_cons, O_nil, O_cons, S_asg, S_asgT, S_par, S_setI, S_aug, S_app, S_revI, S_expr, S_ret, S_retN, S_ite, S_for, S_while, S_brk, S_pass, S_kill, Ss_nil, Ss_cons, W_some, W_none, W_bind, W_map, W_ite, W_lim, get0, getS, List.set_cons_zero, List.set_cons_succ, fin_f, fin_t, tst_eq, blR_bl, pk_val, pk_own, pk_ref, fz_val, fz_own, fz_ref, bindR_val, bindR_own, bindR_ref, intD_int, tru_bl, tru_int, tru_vl, tru_tup, tru_fl, tru_non, pks, bindT, setAll, bindRs, unref, wipe, unlock, itR, callB, refs, argB, argB1, backB, back1, noRef, augC, add_i, sub_i, mul_i, fdiv_i, mod_i, pow_i, add_t, add_l, mul_l, badd_i, bsub_i, bmul_i, bfdiv_i, c_eq, c_ne, c_lt, c_le, c_gt, c_ge, c_in_t, c_in_l, c_nin_t, c_nin_l, dok_l, dok_r, dep_int, dep_bl, dep_non, dep_str, eq_ii, eq_bb, b_len_t, b_len_v, b_len_f, b_tup_t, b_tup_v, b_tup_f, b_lst_t, b_lst_v, b_lst_f, b_min2, b_max2, b_abs, b_int_i, b_int_b, b_isB, b_isI, b_isS, b_isT, b_sum_v, b_sum_t, b_any_v, b_all_v, r1, r2, ix_t, ix_v, ix_f, popL, appL, setL, outR_val, outR_own, outR_ref, List.nodup_nil, List.nodup_cons, List.not_mem_nil, not_false_eq_true, and_self, if_true, Bool.false_eq_true, if_false, List.mem_cons, or_false, true_and, and_true, decide_eq_true_eq, beq_iff_eq, Option.map_some, Option.bind_some, List.length_map, List.nil_append, List.cons_append, List.replicate])
local macro_rules | `(tactic| wtm_at "sx") => `(tactic| simp [*, true_implies, false_implies, implies_true, not_true_eq_false, ne_eq, Int.reduceEq, Int.reduceNeg, Int.reduceToNat, reduceCtorEq, Bool.not_true, Bool.not_false, Classical.not_not, Int.toNat_natCast, MS.rngList_len, Nat.zero_le, List.contains_nil, Bool.and_true, Bool.true_and, Bool.and_false, Bool.false_and, List.map_nil, List.append_nil, Nat.reduceLT, Nat.reduceLeDiff, Int.reduceLT, Int.reduceLE, Nat.reduceMul, Int.reduceMul, Int.reduceAdd, Int.reduceSub, List.length_cons, List.length_nil, Nat.reduceAdd, Nat.reduceSub, Nat.zero_add, List.getElem?_cons_zero, List.getElem?_cons_succ, List.contains_cons, Nat.reduceBEq, Bool.or_false, Bool.or_true, Bool.false_or, outB_0, outB_1, outB_2, outB_3, outB_4, outB_5, outB_6, outB_7, outB_8, eq_ss, eq_nn, X_non, X_bl, T_bl, X_int, X_str, X_var, T_var, X_gl, X_tup, X_lst, X_bin, X_neg, X_cmp, T_cmp, X_chain, T_chain, X_isN, T_isN, X_isB, T_isB, X_ite, X_idx, T_idx, X_slT, X_slF, X_slB, X_rev, X_call, T_call, X_bi, T_bi, X_pop, X_popAt, X_rng, X_comp, X_compIf, T_bin, X_not, T_not, X_and, T_and, X_or, T_or, V_nil, V_cons, R_nil, R_cons, AV_nil, AV_cons, OV_nil, OV_cons, A_nil, A_cons, O_nil, O_cons, S_asg, S_asgT, S_par, S_setI, S_aug, S_app, S_revI, S_expr, S_ret, S_retN, S_ite, S_for, S_while, S_brk, S_pass, S_kill, Ss_nil, Ss_cons, W_some, MS.rngList_len, W_none, W_bind, W_map, W_ite, W_lim, get0, getS, List.set_cons_zero, List.set_cons_succ, fin_f, fin_t, tst_eq, blR_bl, pk_val, pk_own, pk_ref, fz_val, fz_own, fz_ref, bindR_val, bindR_own, bindR_ref, intD_int, tru_bl, tru_int, tru_vl, tru_tup, tru_fl, tru_non, pks, bindT, setAll, bindRs, unref, wipe, unlock, itR, callB, refs, argB, argB1, backB, back1, noRef, augC, add_i, sub_i, mul_i, fdiv_i, mod_i, pow_i, add_t, add_l, mul_l, badd_i, bsub_i, bmul_i, bfdiv_i, c_eq, c_ne, c_lt, c_le, c_gt, c_ge, c_in_t, c_in_l, c_nin_t, c_nin_l, dok_l, dok_r, dep_int, dep_bl, dep_non, dep_str, eq_ii, eq_bb, b_len_t, b_len_v, b_len_f, b_tup_t, b_tup_v, b_tup_f, b_lst_t, b_lst_v, b_lst_f, b_min2, b_max2, b_abs, b_int_i, b_int_b, b_isB, b_isI, b_isS, b_isT, b_sum_v, b_sum_t, b_any_v, b_all_v, r1, r2, ix_t, ix_v, ix_f, popL, appL, setL, outR_val, outR_own, outR_ref, List.nodup_nil, List.nodup_cons, List.not_mem_nil, not_false_eq_true, and_self, if_true, Bool.false_eq_true, if_false, List.mem_cons, or_false, true_and, and_true, decide_eq_true_eq, beq_iff_eq, Option.map_some, Option.bind_some, List.length_map, List.nil_append, List.cons_append, List.replicate])
def drawsLoop : Ss := (.cons (.asg 7 (.bin .mod (.var 6) (.bi .len (.cons (.var 2) .nil))))
(.cons (.ite (.and (.cons (.cmp .ge (.idx (.var 2) (.var 7)) (.bin .pow (.int 10) (.int 18))) (.cons (.cmp .gt (.idx (.var 4) (.var 7)) (.int 0)) .nil)))
(.cons (.app 5 (.bin .mod (.bi .int (.cons (.idx (.var 4) (.var 7)) .nil)) (.int 1000)))
(.cons (.setI 4 (.var 7) (.bin .fdiv (.idx (.var 4) (.var 7)) (.int 1000)))
.nil))
(.cons (.asg 8 (.bin .mod (.bi .int (.cons (.bin .add (.bin .add (.bin .mul (.idx (.var 2) (.var 7)) (.int 48271)) (.bin .mul (.var 6) (.int 69621))) (.int 11)) .nil)) (.int 2147483647)))
(.cons (.app 5 (.bin .mod (.bi .int (.cons (.bin .add (.bin .add (.bin .mul (.var 8) (.var 8)) (.bin .mul (.int 3) (.var 8))) (.var 6)) .nil)) (.int 1000003)))
.nil)))
(.cons (.kill [8])
(.cons (.kill [6, 7, 8])
.nil))))
def f_drawsA : Fn := ⟨2, 9, [],
(.cons (.asg 2 (.comp [3] (.bi .int (.cons (.var 3) .nil)) (.nm 3) (.var 0)))
(.cons (.ite (.cmp .eq (.bi .len (.cons (.var 2) .nil)) (.int 0))
(.cons (.app 2 (.int 0))
.nil)
.nil)
(.cons (.asg 4 (.bi .list (.cons (.var 2) .nil)))
(.cons (.asg 5 (.lst .nil))
(.cons (.for (.nm 6) (.rng (.cons (.var 1) .nil))
drawsLoop)
(.cons (.revI 5)
(.cons (.ret (.var 5))
.nil)))))))⟩
def f_drawsB : Fn := ⟨2, 9, [],
(.cons (.asg 2 (.bin .add (.comp [3] (.bi .int (.cons (.var 3) .nil)) (.nm 3) (.var 0)) (.bin .mul (.lst (.cons (.int 0) .nil)) (.bi .int (.cons (.cmp .eq (.bi .len (.cons (.var 0) .nil)) (.int 0)) .nil)))))
(.cons (.asg 4 (.bi .list (.cons (.var 2) .nil)))
(.cons (.asg 5 (.lst .nil))
(.cons (.for (.nm 6) (.rng (.cons (.var 1) .nil))
drawsLoop)
(.cons (.revI 5)
(.cons (.ret (.var 5))
.nil))))))⟩
def f_cellA (g : Nat) : Fn := ⟨2, 3, [],
(.cons (.ite (.cmp .eq (.bi .len (.cons (.var 0) .nil)) (.int 0))
(.cons (.ret (.int 0))
.nil)
.nil)
(.cons (.asg 2 (.bi .int (.cons (.idx (.var 0) (.call g (.cons (.var 1) (.cons (.bi .len (.cons (.var 0) .nil)) .nil)))) .nil)))
(.cons (.ret (.bin .mul (.bin .mod (.bi .abs (.cons (.var 2) .nil)) (.bin .pow (.int 10) (.int 60))) (.idx (.lst (.cons (.int 1) (.cons (.neg (.int 1)) .nil))) (.bi .int (.cons (.cmp .lt (.var 2) (.int 0)) .nil)))))
.nil)))⟩
def f_cellB : Fn := ⟨2, 3, [],
(.cons (.ite (.cmp .eq (.bi .len (.cons (.var 0) .nil)) (.int 0))
(.cons (.ret (.int 0))
.nil)
.nil)
(.cons (.asg 2 (.bi .int (.cons (.idx (.var 0) (.bin .mod (.bi .int (.cons (.var 1) .nil)) (.bi .len (.cons (.var 0) .nil)))) .nil)))
(.cons (.ret (.bin .mul (.bin .mod (.bi .abs (.cons (.var 2) .nil)) (.bin .pow (.int 10) (.int 60))) (.idx (.lst (.cons (.int 1) (.cons (.neg (.int 1)) .nil))) (.bi .int (.cons (.cmp .lt (.var 2) (.int 0)) .nil)))))
.nil)))⟩
def f_cellC : Fn := ⟨2, 3, [],
(.cons (.ite (.cmp .eq (.bi .len (.cons (.var 0) .nil)) (.int 0))
(.cons (.ret (.int 0))
.nil)
.nil)
(.cons (.asg 2 (.bi .int (.cons (.idx (.var 0) (.bin .mod (.bi .int (.cons (.var 1) .nil)) (.bi .len (.cons (.var 0) .nil)))) .nil)))
(.cons (.ret (.bin .mul (.bin .mod (.bi .abs (.cons (.var 2) .nil)) (.bin .pow (.int 10) (.int 28))) (.idx (.lst (.cons (.int 1) (.cons (.neg (.int 1)) .nil))) (.bi .int (.cons (.cmp .lt (.var 2) (.int 0)) .nil)))))
.nil)))⟩
theorem ix_nat {n k : Nat} (h : k < n) : ixP n (k : Int) = some k := by
  rw [at_in (by omega) (by omega)]
  exact congrArg some (Int.toNat_natCast k)
theorem fmod_nat (a b : Nat) : Int.fmod (a : Int) (b : Int) = ((a % b : Nat) : Int) := by
  rw [Int.fmod_eq_emod_of_nonneg _ (by omega)]
  omega
theorem nat_cast_pos {n : Nat} (h : 0 < n) : ¬ (n : Int) = 0 := by omega
theorem draws_loop {G : List D} {Φ : Calls} {a : D} {m : Nat} {cs : List Int} (hc : cs ≠ []) {Q : Out × Env → Prop}
    (q : ∀ (rs ds : List Int), Q (.next, [.val a, .val (.int m), .cell (cs.map D.int), .no, .cell (rs.map D.int), .cell (ds.map D.int), .no, .no, .no])) (hm : m ≤ 100000) :
    W (forE G Φ (.nm 6) drawsLoop (rngList 0 m 1) [.val a, .val (.int m), .cell (cs.map D.int), .no, .cell (cs.map D.int), .cell [], .no, .no, .no]) Q := by
  refine W_for (fun i e => ∃ rs ds : List Int, rs.length = cs.length ∧ ds.length = i ∧ e = [.val a, .val (.int m), .cell (cs.map D.int), .no, .cell (rs.map D.int), .cell (ds.map D.int), .no, .no, .no]) ⟨cs, [], rfl, rfl, rfl⟩ ?_ ?_
  · rintro i x e hx ⟨rs, ds, hr, hd, rfl⟩
    obtain ⟨rfl, hi⟩ := rng_at hx
    have hpos : 0 < cs.length := List.length_pos_iff.mpr hc
    have hlt : i % cs.length < cs.length := Nat.mod_lt _ hpos
    have g1 : (cs.map D.int)[i % cs.length]? = some (.int cs[i % cs.length]) := by rw [List.getElem?_map, List.getElem?_eq_getElem hlt]; rfl
    have g2 : (rs.map D.int)[i % cs.length]? = some (.int (rs[i % cs.length]'(by omega))) := by rw [List.getElem?_map, List.getElem?_eq_getElem (by omega)]; rfl
    have e0 := nat_cast_pos hpos
    have hi0 : (0 : Int) + (i : Int) = i := Int.zero_add _
    have x0 : Int.fmod (i : Int) (cs.length : Int) = ((i % cs.length : Nat) : Int) := fmod_nat _ _
    have x1 : ixP cs.length ((i % cs.length : Nat) : Int) = some (i % cs.length) := ix_nat (by omega)
    have x2 : ixP rs.length ((i % cs.length : Nat) : Int) = some (i % cs.length) := ix_nat (by omega)
    have k1 : powOk 10 18 = true := powOk_of (by decide) (by decide) (by decide)
    have k2 : divOk 1000 = true := divOk_of (by decide) (by decide)
    have k3 : ∀ z : Int, mulOk z 48271 = true := fun z => mulOk_r (by decide)
    have k4 : ∀ z : Int, mulOk z 69621 = true := fun z => mulOk_r (by decide)
    have k5 : ∀ z : Int, mulOk 3 z = true := fun z => mulOk_l (by decide)
    have k6 : ∀ z w : Int, mulOk (z.fmod 2147483647) w = true := fun z w => mulOk_l (by
      have h1 := Int.fmod_nonneg_of_pos z (b := 2147483647) (by decide)
      have h2 := Int.fmod_lt_of_pos z (b := 2147483647) (by decide)
      omega)
    have k7 : ds.length < LIM := by rw [LIM_val]; omega
    have k8 : ∀ z : Int, (rs.map D.int).set (i % cs.length) (D.int z) = (rs.set (i % cs.length) z).map D.int := fun z => by rw [List.map_set]
    have k9 : ∀ z : Int, ds.map D.int ++ [D.int z] = (ds ++ [z]).map D.int := fun z => by rw [List.map_append]; rfl
    generalize cs[i % cs.length] = c at g1
    generalize (rs[i % cs.length]'(by omega)) = r at g2
    clear hx hc q
    unfold drawsLoop
    have k10 : i < LIM := by rw [LIM_val]; omega
    have k11 : cs ≠ [] := by intro z; subst z; cases hpos
    wtm_at "mx"
    refine ⟨fun _ => ⟨fun _ => ⟨_, _, ?_, ?_, rfl⟩, fun _ => ⟨_, _, ?_, ?_, rfl⟩⟩, fun _ => ⟨_, _, ?_, ?_, rfl⟩⟩
    all_goals first
      | exact hr
      | (rw [List.length_set]; exact hr)
      | (rw [List.length_append, hd]; rfl)
  · rintro e ⟨rs, ds, _, _, rfl⟩
    exact q rs ds
theorem draws_okA {G : List D} {P : List Fn} {f n m : Nat} (h : P[f]? = some f_drawsA) (ns : List Int) (hl : ns.length ≤ 63) (hm : m ≤ 100000) :
    ∃ l : List Int, callF G P (n + 1) f [.val (.fl (ns.map D.int)), .val (.int m)] = some (.own (l.map D.int), [.val (.fl (ns.map D.int)), .val (.int m)]) := by
  have r1 : rngOk (m : Int) = true := rngOk_of (by omega) (by omega)
  have r2 : m ≤ LIM := by rw [LIM_val]; omega
  have r3 : ns.length ≤ LIM := by rw [LIM_val]; omega
  have key : W (callF G P (n + 1) f [.val (.fl (ns.map D.int)), .val (.int m)]) fun p => ∃ l : List Int, p = (.own (l.map D.int), [.val (.fl (ns.map D.int)), .val (.int m)]) := by
    have comp : ∀ (b : B) (Q : List D × Env → Prop), (∀ e, restore [.val (.fl (ns.map D.int)), .val (.int m), .no, .no, .no, .no, .no, .no, .no] e [3] = [.val (.fl (ns.map D.int)), .val (.int m), .no, .no, .no, .no, .no, .no, .no] → Q (ns.map D.int, e)) → W (cmpL G (callF G P n) [3] (.bi .int (.cons (.var 3) .nil)) (.nm 3) (ns.map D.int) [.val (.fl (ns.map D.int)), .val (.int m), .no, .no, .no, .no, .no, .no, .no]) Q := by
      intro b Q q
      refine W_cmp id ?_ (by simpa using q)
      intro x hx
      obtain ⟨z, _, rfl⟩ := List.mem_map.mp hx
      wtm_at "s"
    -- behind the loop
    have tail : ∀ (cs : List Int), cs ≠ [] → ∀ Q : Out × Env → Prop, (∀ (rs ds : List Int), Q (.next, [.val (.fl (ns.map D.int)), .val (.int m), .cell (cs.map D.int), .no, .cell (rs.map D.int), .cell (ds.map D.int), .no, .no, .no])) →
        W (forE G (callF G P n) (.nm 6) drawsLoop (rngList 0 m 1) [.val (.fl (ns.map D.int)), .val (.int m), .cell (cs.map D.int), .no, .cell (cs.map D.int), .cell [], .no, .no, .no]) Q := fun cs hc Q q => draws_loop hc q hm
    have one : [D.int 0] = ([0] : List Int).map D.int := rfl
    rw [callF_succ h]
    refine run_ok rfl rfl ?_
    wtm_at "mx"
    refine comp .no _ fun e he => ?_
    have l0 : ns.length < LIM := by rw [LIM_val]; omega
    wtm_at "mx"
    refine ⟨fun hz => ?_, fun hz => ?_⟩
    · have hn : ns = [] := List.eq_nil_of_length_eq_zero (by omega)
      subst hn
      refine tail [0] (by simp) _ fun rs ds => ?_
      wtm_at "m"
      exact ⟨ds.reverse, by rw [List.map_reverse]⟩
    · refine tail ns (fun z => hz (by rw [z]; rfl)) _ fun rs ds => ?_
      wtm_at "m"
      exact ⟨ds.reverse, by rw [List.map_reverse]⟩
  obtain ⟨p, h1, l, h2⟩ := key
  exact ⟨l, by rw [h1, h2]⟩
/-- a cell's value: any int; what counts is that it is one -/
theorem cellB_ok {G : List D} {P : List Fn} {f n : Nat} (h : P[f]? = some f_cellB) (ns : List Int) (at_ : Int) : ∃ v : Int, callF G P (n + 1) f [.val (.fl (ns.map D.int)), .val (.int at_)] = some (.val (.int v), [.val (.fl (ns.map D.int)), .val (.int at_)]) := by
  have key : W (callF G P (n + 1) f [.val (.fl (ns.map D.int)), .val (.int at_)]) fun p => ∃ v : Int, p = (.val (.int v), [.val (.fl (ns.map D.int)), .val (.int at_)]) := by
    rw [callF_succ h]
    refine run_ok rfl rfl ?_
    by_cases hz : (ns.length : Int) = 0
    · wtm_at "mx"
      exact ⟨0, rfl⟩
    · have hp : 0 < (ns.length : Int) := by omega
      have h1 := Int.fmod_nonneg_of_pos at_ hp
      have h2 := Int.fmod_lt_of_pos at_ hp
      have h3 : (at_.fmod ns.length).toNat < ns.length := by omega
      have x1 : ixP ns.length (at_.fmod ns.length) = some (at_.fmod ns.length).toNat := at_in h1 h2
      have g1 : (ns.map D.int)[(at_.fmod ns.length).toNat]? = some (.int ns[(at_.fmod ns.length).toNat]) := by rw [List.getElem?_map, List.getElem?_eq_getElem h3]; rfl
      generalize ns[(at_.fmod ns.length).toNat] = c at g1
      have k1 : powOk 10 60 = true := powOk_of (by decide) (by decide) (by decide)
      have k2 : ∀ z : Int, mulOk z 1 = true := fun z => mulOk_r (by decide)
      have k3 : ∀ z : Int, mulOk z (-1) = true := fun z => mulOk_r (by decide)
      have k4 : (2 : Nat) ≤ LIM := by rw [LIM_val]; decide
      have k5 : ixP 2 1 = some 1 := rfl
      have k6 : ixP 2 0 = some 0 := rfl
      by_cases hc : c < 0
      · wtm_at "mx"
        exact ⟨fun _ => ⟨_, rfl⟩, fun z => absurd z (by decide)⟩
      · wtm_at "mx"
        exact ⟨fun _ => ⟨_, rfl⟩, fun z => absurd z (by decide)⟩
  obtain ⟨p, h1, v, h2⟩ := key
  exact ⟨v, by rw [h1, h2]⟩
end PL

/-! Plain laws: typed lists, side conditions told by omega. -/
namespace PL
open Mini
local macro_rules | `(tactic| wtm_at "m") => `(tactic| simp only [true_implies, false_implies, implies_true, not_true_eq_false, ne_eq, Int.reduceEq, Int.reduceNeg, Int.reduceToNat, reduceCtorEq, Bool.not_true, Bool.not_false, Classical.not_not, Int.toNat_natCast, MS.rngList_len, Nat.zero_le, List.contains_nil, Bool.and_true, Bool.true_and, Bool.and_false, Bool.false_and, List.map_nil, List.append_nil, Nat.reduceLT, Nat.reduceLeDiff, Int.reduceLT, Int.reduceLE, Nat.reduceMul, Int.reduceMul, Int.reduceAdd, Int.reduceSub, List.length_cons, List.length_nil, Nat.reduceAdd, Nat.reduceSub, Nat.zero_add, List.getElem?_cons_zero, List.getElem?_cons_succ, List.contains_cons, Nat.reduceBEq, Bool.or_false, Bool.or_true, Bool.false_or, outB_0, outB_1, outB_2, outB_3, outB_4, outB_5, outB_6, outB_7, outB_8, eq_ss, eq_nn, X_non, X_bl, T_bl, X_int, X_str, X_var, T_var, X_gl, X_tup, X_lst, X_bin, X_neg, X_cmp, T_cmp, X_chain, T_chain, X_isN, T_isN, X_isB, T_isB, X_ite, X_idx, T_idx, X_slT, X_slF, X_slB, X_rev, X_call, T_call, X_bi, T_bi, X_pop, X_popAt, X_rng, X_comp, X_compIf, T_bin, X_not, T_not, X_and, T_and, X_or, T_or, V_nil, V_cons, R_nil, R_cons, AV_nil, AV_cons, OV_nil, OV_cons, A_nil, A_cons, O_nil, O_cons, S_asg, S_asgT, S_par, S_setI, S_aug, S_app, S_revI, S_expr, S_ret, S_retN, S_ite, S_for, S_while, S_brk, S_pass, S_kill, Ss_nil, Ss_cons, W_some, W_none, W_bind, W_map, W_ite, W_lim, get0, getS, List.set_cons_zero, List.set_cons_succ, fin_f, fin_t, tst_eq, blR_bl, pk_val, pk_own, pk_ref, fz_val, fz_own, fz_ref, bindR_val, bindR_own, bindR_ref, intD_int, tru_bl, tru_int, tru_vl, tru_tup, tru_fl, tru_non, pks, bindT, setAll, bindRs, unref, wipe, unlock, itR, callB, refs, argB, argB1, backB, back1, noRef, augC, add_i, sub_i, mul_i, fdiv_i, mod_i, pow_i, add_t, add_l, mul_l, badd_i, bsub_i, bmul_i, bfdiv_i, c_eq, c_ne, c_lt, c_le, c_gt, c_ge, c_in_t, c_in_l, c_nin_t, c_nin_l, dok_l, dok_r, dep_int, dep_bl, dep_non, dep_str, eq_ii, eq_bb, b_len_t, b_len_v, b_len_f, b_tup_t, b_tup_v, b_tup_f, b_lst_t, b_lst_v, b_lst_f, b_min2, b_max2, b_abs, b_int_i, b_int_b, b_isB, b_isI, b_isS, b_isT, b_sum_v, b_sum_t, b_any_v, b_all_v, r1, r2, ix_t, ix_v, ix_f, popL, appL, setL, outR_val, outR_own, outR_ref, List.nodup_nil, List.nodup_cons, List.not_mem_nil, not_false_eq_true, and_self, if_true, Bool.false_eq_true, if_false, List.mem_cons, or_false, true_and, and_true, decide_eq_true_eq, beq_iff_eq, Option.map_some, Option.bind_some, List.length_map, List.nil_append, List.cons_append, List.replicate])
def gt {α : Type} [Inhabited α] (l : List α) (k : Nat) : α := l.getD k default
section
variable {α : Type} [Inhabited α] {l : List α} {k : Nat}
theorem gt_some (h : k < l.length) : l[k]? = some (gt l k) := by
  unfold gt
  rw [List.getD_eq_getElem?_getD, List.getElem?_eq_getElem h]; rfl
theorem gt_mem (h : k < l.length) : gt l k ∈ l := List.mem_of_getElem? (gt_some h)
theorem gt_eq {a : α} (h : l[k]? = some a) : gt l k = a := by
  unfold gt
  rw [List.getD_eq_getElem?_getD, h]; rfl
theorem gt_of_mem {a : α} (h : a ∈ l) : ∃ k, k < l.length ∧ gt l k = a := by
  obtain ⟨k, hk⟩ := List.mem_iff_getElem?.mp h
  exact ⟨k, (List.getElem?_eq_some_iff.mp hk).1, gt_eq hk⟩
theorem gt_ext {l' : List α} (h : l.length = l'.length) (e : ∀ k, k < l.length → gt l k = gt l' k) : l = l' := by
  apply List.ext_getElem? 
  intro i
  by_cases hi : i < l.length
  · rw [gt_some hi, gt_some (h ▸ hi), e i hi]
  · rw [List.getElem?_eq_none (by omega), List.getElem?_eq_none (by omega)]
theorem gt_map {β : Type} [Inhabited β] {f : α → β} (h : k < l.length) : gt (l.map f) k = f (gt l k) := by
  apply gt_eq
  rw [List.getElem?_map, gt_some h]; rfl
theorem gt_range {n : Nat} (h : k < n) : gt (List.range n) k = k := gt_eq (by rw [List.getElem?_range h])
theorem gt_set {a : α} {j : Nat} (h : k < l.length) : gt (l.set k a) j = if k = j then a else gt l j := by
  unfold gt
  rw [List.getD_eq_getElem?_getD, List.getD_eq_getElem?_getD, List.getElem?_set]
  by_cases e : k = j
  · rw [if_pos e, if_pos e, if_pos h]; rfl
  · rw [if_neg e, if_neg e]
theorem gt_append {l' : List α} : gt (l ++ l') k = if k < l.length then gt l k else gt l' (k - l.length) := by
  unfold gt
  rw [List.getD_eq_getElem?_getD, List.getElem?_append]
  split <;> simp [List.getD_eq_getElem?_getD]
theorem gt_cons0 {a : α} : gt (a :: l) 0 = a := rfl
theorem gt_consS {a : α} : gt (a :: l) (k + 1) = gt l k := by
  unfold gt; rw [List.getD_eq_getElem?_getD, List.getD_eq_getElem?_getD, List.getElem?_cons_succ]
theorem gt_ge (h : l.length ≤ k) : gt l k = default := by
  unfold gt; rw [List.getD_eq_getElem?_getD, List.getElem?_eq_none h]; rfl
variable {f : α → D}
theorem iT (h : k < l.length) : idxD (.tup (l.map f)) (k : Int) = some (f (gt l k)) := by
  rw [ix_t, List.length_map, ix_nat h, Option.bind_some, List.getElem?_map, gt_some h]; rfl
theorem iV (h : k < l.length) : idxD (.vl (l.map f)) (k : Int) = some (f (gt l k)) := by
  rw [ix_v, List.length_map, ix_nat h, Option.bind_some, List.getElem?_map, gt_some h]; rfl
theorem iTi {i : Int} (h0 : 0 ≤ i) (h : i < l.length) : idxD (.tup (l.map f)) i = some (f (gt l i.toNat)) := by
  obtain ⟨k, rfl⟩ := Int.eq_ofNat_of_zero_le h0
  rw [Int.toNat_natCast]; exact iT (by omega)
theorem iVi {i : Int} (h0 : 0 ≤ i) (h : i < l.length) : idxD (.vl (l.map f)) i = some (f (gt l i.toNat)) := by
  obtain ⟨k, rfl⟩ := Int.eq_ofNat_of_zero_le h0
  rw [Int.toNat_natCast]; exact iV (by omega)
end
section
variable {a b c d e g : D} {xs : List D}
theorem it0 : idxD (.tup (a :: xs)) 0 = some a := by
  rw [ix_t, at_in (by decide) (by simp)]; rfl
theorem it1 : idxD (.tup (a :: b :: xs)) 1 = some b := by
  rw [ix_t, at_in (by decide) (by simp; omega)]; rfl
theorem it2 : idxD (.tup (a :: b :: c :: xs)) 2 = some c := by
  rw [ix_t, at_in (by decide) (by simp; omega)]; rfl
theorem it3 : idxD (.tup (a :: b :: c :: d :: xs)) 3 = some d := by
  rw [ix_t, at_in (by decide) (by simp; omega)]; rfl
theorem it4 : idxD (.tup (a :: b :: c :: d :: e :: xs)) 4 = some e := by
  rw [ix_t, at_in (by decide) (by simp; omega)]; rfl
theorem iv0 : idxD (.vl (a :: xs)) 0 = some a := by
  rw [ix_v, at_in (by decide) (by simp)]; rfl
theorem iv1 : idxD (.vl (a :: b :: xs)) 1 = some b := by
  rw [ix_v, at_in (by decide) (by simp; omega)]; rfl
theorem iv2 : idxD (.vl (a :: b :: c :: xs)) 2 = some c := by
  rw [ix_v, at_in (by decide) (by simp; omega)]; rfl
theorem iv3 : idxD (.vl (a :: b :: c :: d :: xs)) 3 = some d := by
  rw [ix_v, at_in (by decide) (by simp; omega)]; rfl
/-- one of two, told by a truth value -/
theorem iv_b {p : Bool} : idxD (.vl [a, b]) (if p then 1 else 0) = some (if p then b else a) := by cases p <;> rfl
theorem it_b {p : Bool} : idxD (.tup [a, b]) (if p then 1 else 0) = some (if p then b else a) := by cases p <;> rfl
end
theorem ite_int {p : Bool} {a b : Int} : (if p then D.int a else D.int b) = D.int (if p then a else b) := by cases p <;> rfl
theorem lim_ok {xs : List D} (h : xs.length ≤ 16777216) : lim xs = some xs := by
  unfold lim; rw [if_pos (by rw [LIM_val]; exact h)]
theorem lim_filter {α : Type} {f : α → D} {p : α → Bool} {l : List α} (h : l.length ≤ 16777216) : lim ((l.filter p).map f) = some ((l.filter p).map f) := lim_ok (by rw [List.length_map]; exact Nat.le_trans (List.length_filter_le _ _) h)
theorem rng_0 {n : Nat} : rngList 0 n 1 = (List.range n).map fun k : Nat => D.int k := by
  unfold rngList
  apply List.map_congr_left
  intro k _
  rw [Int.mul_one, Int.zero_add]
theorem rng_1 {lo : Int} {n : Nat} : rngList lo n 1 = (List.range n).map fun k : Nat => D.int (lo + k) := by
  unfold rngList
  apply List.map_congr_left
  intro k _
  rw [Int.mul_one]
theorem r1' {a : Int} (h1 : -1000000000 ≤ a) (h2 : a ≤ 1000000000) : rngD [.int a] = some ((List.range a.toNat).map fun k : Nat => D.int k) := by
  rw [r1, if_pos (rngOk_of h1 h2), rng_0]
theorem r2' {a b : Int} (h1 : -1000000000 ≤ a) (h2 : a ≤ 1000000000) (h3 : -1000000000 ≤ b) (h4 : b ≤ 1000000000) : rngD [.int a, .int b] = some ((List.range (b - a).toNat).map fun k : Nat => D.int (a + k)) := by
  rw [r2, rngOk_of h1 h2, rngOk_of h3 h4, rng_1]; rfl
theorem mulL {i j : Int} (h : i.natAbs < 2 ^ 64) : binop .mul (.int i) (.int j) = some (.val (.int (i * j))) := by rw [mul_i, mulOk_l h]; rfl
theorem mulR {i j : Int} (h : j.natAbs < 2 ^ 64) : binop .mul (.int i) (.int j) = some (.val (.int (i * j))) := by rw [mul_i, mulOk_r h]; rfl
theorem bmulL {i j : Int} (h : i.natAbs < 2 ^ 64) : binI .mul (.int i) (.int j) = some (.val (.int (i * j))) := by rw [bmul_i, mulOk_l h]; rfl
theorem bmulR {i j : Int} (h : j.natAbs < 2 ^ 64) : binI .mul (.int i) (.int j) = some (.val (.int (i * j))) := by rw [bmul_i, mulOk_r h]; rfl
theorem mulB {i j : Int} (h1 : i.natAbs < BIG) (h2 : j.natAbs < BIG) : mulOk i j = true := by
  unfold mulOk
  rw [decide_eq_true h1, decide_eq_true h2, Bool.and_true, Bool.or_true]
theorem fdivS {i j : Int} (h : j ≠ 0) (h2 : j.natAbs < 2 ^ 64) : binop .fdiv (.int i) (.int j) = some (.val (.int (i.fdiv j))) := by rw [fdiv_i, divOk_of h h2]; rfl
theorem bfdivS {i j : Int} (h : j ≠ 0) (h2 : j.natAbs < 2 ^ 64) : binI .fdiv (.int i) (.int j) = some (.val (.int (i.fdiv j))) := by rw [bfdiv_i, divOk_of h h2]; rfl
theorem modS {i j : Int} (h : j ≠ 0) : binop .mod (.int i) (.int j) = some (.val (.int (i.fmod j))) := by rw [mod_i, if_pos h]
theorem powS {i j : Int} (h0 : 0 ≤ j) (h1 : j ≤ 1000000) (h : i.natAbs < 2 ^ 64) : binop .pow (.int i) (.int j) = some (.val (.int (i ^ j.toNat))) := by rw [pow_i, powOk_of h0 h1 h]; rfl
theorem add_tS {xs ys : List D} (h : xs.length + ys.length ≤ 16777216) : binop .add (.tup xs) (.tup ys) = some (.val (.tup (xs ++ ys))) := by rw [add_t, if_pos (by rw [LIM_val]; exact h)]
theorem add_lS {xs ys : List D} (h : xs.length + ys.length ≤ 16777216) : binop .add (.vl xs) (.vl ys) = some (.own (xs ++ ys)) := by rw [add_l, if_pos (by rw [LIM_val]; exact h)]
theorem rep1 {x : D} {k : Int} : rep [x] k = (List.range k.toNat).map fun _ => x := by
  unfold rep
  generalize k.toNat = n
  rw [List.map_const', List.length_range]
  induction n with
  | zero => rfl
  | succ n ih => rw [List.replicate_succ, List.flatten_cons, ih, List.replicate_succ]; rfl
theorem mul_lS {x : D} {k : Int} (h1 : -1000000000 ≤ k) (h2 : k ≤ 16777216) : binop .mul (.vl [x]) (.int k) = some (.own ((List.range k.toNat).map fun _ => x)) := by
  rw [mul_l, rngOk_of h1 (by omega), Bool.true_and, if_pos (decide_eq_true (by rw [LIM_val]; simp; omega)), rep1]
theorem appL_cell {env : Env} {i : Nat} {xs : List D} {d : D} (h : get env i = .cell xs) (hl : xs.length < 16777216) : appL env i d = some (env.set i (.cell (xs ++ [d]))) := by
  unfold appL; rw [h]; dsimp only; rw [if_pos (by rw [LIM_val]; exact hl)]
theorem snoc_map {α : Type} {f : α → D} {l : List α} {a : α} : l.map f ++ [f a] = (l ++ [a]).map f := by rw [List.map_append]; rfl
theorem set_map {α : Type} {f : α → D} {l : List α} {k : Nat} {a : α} : (l.map f).set k (f a) = (l.set k a).map f := by rw [List.map_set]
theorem setL_cell {α : Type} {f : α → D} {env : Env} {i k : Nat} {l : List α} {d : D} (h : get env i = .cell (l.map f)) (hl : k < l.length) : setL env i (k : Int) d = some (env.set i (.cell ((l.map f).set k d))) := by
  unfold setL; rw [h]; dsimp only; rw [List.length_map, ix_nat hl]; rfl
section
variable {α : Type} {l : List α}
theorem ints_f {f : α → Int} : intsD (l.map fun a => D.int (f a)) = some (l.map f) := by
  have : (l.map fun a => D.int (f a)) = (l.map f).map D.int := by rw [List.map_map]; rfl
  rw [this]; exact intsD_map
theorem bls_f {f : α → Bool} : blsD (l.map fun a => D.bl (f a)) = some (l.map f) := by
  have : (l.map fun a => D.bl (f a)) = (l.map f).map D.bl := by rw [List.map_map]; rfl
  rw [this]; exact blsD_map
theorem sum_v {f : α → Int} : bip .sum [.vl (l.map fun a => D.int (f a))] = some (.val (.int (l.map f).sum)) := by
  show ((some _).bind intsD).map _ = _
  rw [Option.bind_some, ints_f]; rfl
theorem sum_t {f : α → Int} : bip .sum [.tup (l.map fun a => D.int (f a))] = some (.val (.int (l.map f).sum)) := by
  show ((some _).bind intsD).map _ = _
  rw [Option.bind_some, ints_f]; rfl
theorem any_v {f : α → Bool} : bip .any [.vl (l.map fun a => D.bl (f a))] = some (.val (.bl (l.any f))) := by
  show ((some _).bind blsD).map _ = _
  rw [Option.bind_some, bls_f, Option.map_some, List.any_map]; rfl
theorem all_v {f : α → Bool} : bip .all [.vl (l.map fun a => D.bl (f a))] = some (.val (.bl (l.all f))) := by
  show ((some _).bind blsD).map _ = _
  rw [Option.bind_some, bls_f, Option.map_some, List.all_map]; rfl
end
section
variable {G : List D} {Φ : Calls} {env : Env}
/-- a comprehension, with the names put back -/
def cmpR (G : List D) (Φ : Calls) (own : List Nat) (elt : E) (t : T) (xs : List D) (env : Env) : Option (List D × Env) := (cmpL G Φ own elt t xs env).map fun r => (r.1, restore env r.2 own)
def cmpIfR (G : List D) (Φ : Calls) (own : List Nat) (elt : E) (t : T) (c : E) (xs : List D) (env : Env) : Option (List D × Env) := (cmpIfL G Φ own elt t c xs env).map fun r => (r.1, restore env r.2 own)
theorem X_compR {own : List Nat} {elt it : E} {t : T} : evX G Φ (.comp own elt t it) false env = (evX G Φ it false env).bind fun p => (itR p.2 p.1).bind fun q => (lim q.1).bind fun xs => (cmpR G Φ own elt t xs q.2.1).map fun r => (.own r.1, unlock r.2 q.2.2) := by
  rw [X_comp]
  congr 1; funext p; congr 1; funext q; congr 1; funext xs
  unfold cmpR
  rw [Option.map_map]; rfl
theorem X_compIfR {own : List Nat} {elt it c : E} {t : T} : evX G Φ (.compIf own elt t it c) false env = (evX G Φ it false env).bind fun p => (itR p.2 p.1).bind fun q => (lim q.1).bind fun xs => (cmpIfR G Φ own elt t c xs q.2.1).map fun r => (.own r.1, unlock r.2 q.2.2) := by
  rw [X_compIf]
  congr 1; funext p; congr 1; funext q; congr 1; funext xs
  unfold cmpIfR
  rw [Option.map_map]; rfl
variable {α : Type} {f g : α → D} {l : List α} {own : List Nat} {elt cc : E} {t : T} {Q : List D × Env → Prop}
theorem cmpL_map {g : α → D} : ∀ {l : List α} {e : Env}, (∀ a ∈ l, W ((bindT (wipe env own) t (f a)).bind fun e => (evX G Φ elt false e).bind fun p => fz p.2 p.1) fun p => p.1 = g a ∧ wipe p.2 own = wipe env own) → wipe e own = wipe env own → ∃ e', cmpL G Φ own elt t (l.map f) e = some (l.map g, e') ∧ wipe e' own = wipe env own := by
  intro l
  induction l with
  | nil => intro e _ he; exact ⟨e, rfl, he⟩
  | cons x xs ih =>
    intro e h he
    obtain ⟨⟨d, e1⟩, h1, rfl, h2⟩ := h x (List.mem_cons_self ..)
    obtain ⟨e', h3, h4⟩ := ih (fun y hy => h y (List.mem_cons_of_mem _ hy)) h2
    refine ⟨e', ?_, h4⟩
    unfold cmpL at h3 ⊢
    rw [List.map_cons, compL, he]
    have : ((bindT (wipe env own) t (f x)).bind fun e => (evX G Φ elt false e).bind fun (r, e) => fz e r) = some (g x, e1) := h1
    rw [this, Option.bind_some]
    dsimp only
    rw [h3]
    rfl
/-- a comprehension that changes nothing, over typed items -/
theorem W_cM (g : α → D) (hs : ∀ a ∈ l, W ((bindT (wipe env own) t (f a)).bind fun e => (evX G Φ elt false e).bind fun p => fz p.2 p.1) fun p => p.1 = g a ∧ wipe p.2 own = wipe env own)
    (q : Q (l.map g, env)) : W (cmpR G Φ own elt t (l.map f) env) Q := by
  unfold cmpR
  rw [W_map]
  obtain ⟨e', h1, h2⟩ := cmpL_map (g := g) hs rfl
  exact ⟨_, h1, by dsimp only; rw [restore_same h2]; exact q⟩
theorem cmpIfL_map {c : α → Bool} {g : α → D} : ∀ {l : List α} {e : Env}, (∀ a ∈ l, W ((bindT (wipe env own) t (f a)).bind fun e => tst (evX G Φ cc true e)) fun p => p.1 = c a ∧ (c a = true → W ((evX G Φ elt false p.2).bind fun p => fz p.2 p.1) fun p => p.1 = g a ∧ wipe p.2 own = wipe env own) ∧ (c a = false → wipe p.2 own = wipe env own)) → wipe e own = wipe env own → ∃ e', cmpIfL G Φ own elt t cc (l.map f) e = some ((l.filter c).map g, e') ∧ wipe e' own = wipe env own := by
  intro l
  induction l with
  | nil => intro e _ he; exact ⟨e, rfl, he⟩
  | cons x xs ih =>
    intro e h he
    obtain ⟨⟨k, e1⟩, h1, rfl, h2, h2'⟩ := h x (List.mem_cons_self ..)
    have h1' : ((bindT (wipe env own) t (f x)).bind fun e => tst (evX G Φ cc true e)) = some (c x, e1) := h1
    cases hc : c x with
    | true =>
      obtain ⟨⟨d, e2⟩, h3, rfl, h4⟩ := h2 hc
      have h3' : ((evX G Φ elt false e1).bind fun (r, e) => fz e r) = some (g x, e2) := h3
      obtain ⟨e', h5, h6⟩ := ih (fun y hy => h y (List.mem_cons_of_mem _ hy)) h4
      refine ⟨e', ?_, h6⟩
      unfold cmpIfL at h5 ⊢
      rw [List.map_cons, compIfL, he, h1', Option.bind_some]
      dsimp only
      rw [hc, if_pos rfl, h3', Option.bind_some]
      dsimp only
      rw [h5, List.filter_cons_of_pos hc]
      rfl
    | false =>
      obtain ⟨e', h5, h6⟩ := ih (fun y hy => h y (List.mem_cons_of_mem _ hy)) (h2' hc)
      refine ⟨e', ?_, h6⟩
      unfold cmpIfL at h5 ⊢
      rw [List.map_cons, compIfL, he, h1', Option.bind_some]
      dsimp only
      rw [hc, if_neg (by simp), h5, List.filter_cons_of_neg (by simp [hc])]
/-- a filtered comprehension that changes nothing, over typed items -/
theorem W_cI (c : α → Bool) (g : α → D)
    (hs : ∀ a ∈ l, W ((bindT (wipe env own) t (f a)).bind fun e => tst (evX G Φ cc true e)) fun p => p.1 = c a ∧ (c a = true → W ((evX G Φ elt false p.2).bind fun p => fz p.2 p.1) fun p => p.1 = g a ∧ wipe p.2 own = wipe env own) ∧ (c a = false → wipe p.2 own = wipe env own))
    (q : Q ((l.filter c).map g, env)) : W (cmpIfR G Φ own elt t cc (l.map f) env) Q := by
  unfold cmpIfR
  rw [W_map]
  obtain ⟨e', h1, h2⟩ := cmpIfL_map (c := c) (g := g) hs rfl
  exact ⟨_, h1, by dsimp only; rw [restore_same h2]; exact q⟩
/-- a comprehension that draws: E tells the names by what draws are left -/
theorem W_cD {β : Type} (k : β → D) (P : Nat → β → Prop) (E : List Int → Env) (l0 : List Int) (h0 : env = E l0) (hr : ∀ l e, wipe e own = wipe (E l) own → restore (E l0) e own = E l)
    (hs : ∀ i a m, i < l.length → l[i]? = some a → W ((bindT (wipe (E m) own) t (f a)).bind fun e => (evX G Φ elt false e).bind fun p => fz p.2 p.1) fun p => ∃ b m', p.1 = k b ∧ P i b ∧ wipe p.2 own = wipe (E m') own)
    (q : ∀ (bs : List β) (m : List Int), bs.length = l.length → (∀ i b, bs[i]? = some b → P i b) → Q (bs.map k, E m)) : W (cmpR G Φ own elt t (l.map f) env) Q := by
  subst h0
  unfold cmpR
  rw [W_map]
  refine W_cmpS (fun out w => ∃ (bs : List β) (m : List Int), out = bs.map k ∧ (∀ i b, bs[i]? = some b → P i b) ∧ w = wipe (E m) own) ⟨[], l0, rfl, fun i b h => (by simp at h), rfl⟩ ?_ ?_
  · rintro i x out w hx hl ⟨bs, m, rfl, hp, rfl⟩
    rw [List.getElem?_map] at hx
    obtain ⟨a, ha, rfl⟩ := Option.map_eq_some_iff.mp hx
    refine W_mono (hs i a m (List.getElem?_eq_some_iff.mp ha).1 ha) ?_
    rintro ⟨d, e⟩ ⟨b, m', rfl, hb, he⟩
    refine ⟨bs ++ [b], m', by rw [List.map_append]; rfl, fun j c hj => ?_, he⟩
    rw [List.length_map] at hl
    rcases Nat.lt_trichotomy j bs.length with h | h | h
    · exact hp j c (by rwa [List.getElem?_append_left h] at hj)
    · subst h; rw [List.getElem?_append_right (Nat.le_refl _)] at hj; simp at hj; subst hj; rw [hl]; exact hb
    · rw [List.getElem?_append_right (by omega), List.getElem?_eq_none (by simp; omega)] at hj; cases hj
  · rintro out e hl ⟨bs, m, rfl, hp, he⟩
    dsimp only
    rw [hr m e he]
    exact q bs m (by rw [List.length_map, List.length_map] at hl; exact hl) hp
/-- a filtered comprehension that draws in its test: some of the items stay -/
theorem W_cID {β : Type} (k : β → D) (P : α → β → Prop) (E : List Int → Env) (l0 : List Int) (h0 : env = E l0) (hr : ∀ l e, wipe e own = wipe (E l) own → restore (E l0) e own = E l)
    (hs : ∀ i a m, i < l.length → l[i]? = some a → W ((bindT (wipe (E m) own) t (f a)).bind fun e => tst (evX G Φ cc true e)) fun p => (p.1 = true → W ((evX G Φ elt false p.2).bind fun p => fz p.2 p.1) fun p => ∃ b m', p.1 = k b ∧ P a b ∧ wipe p.2 own = wipe (E m') own) ∧ (p.1 = false → ∃ m', wipe p.2 own = wipe (E m') own))
    (q : ∀ (as : List α) (bs : List β) (m : List Int), as.Sublist l → as.length = bs.length → (∀ (i : Nat) (a : α) (b : β), as[i]? = some a → bs[i]? = some b → P a b) → Q (bs.map k, E m)) : W (cmpIfR G Φ own elt t cc (l.map f) env) Q := by
  subst h0
  unfold cmpIfR
  rw [W_map]
  have key : ∀ (l : List α) (e : Env), (∀ i a m, i < l.length → l[i]? = some a → W ((bindT (wipe (E m) own) t (f a)).bind fun e => tst (evX G Φ cc true e)) fun p => (p.1 = true → W ((evX G Φ elt false p.2).bind fun p => fz p.2 p.1) fun p => ∃ b m', p.1 = k b ∧ P a b ∧ wipe p.2 own = wipe (E m') own) ∧ (p.1 = false → ∃ m', wipe p.2 own = wipe (E m') own)) → (∃ m, wipe e own = wipe (E m) own) →
      ∃ (as : List α) (bs : List β) (e' : Env) (m : List Int), cmpIfL G Φ own elt t cc (l.map f) e = some (bs.map k, e') ∧ wipe e' own = wipe (E m) own ∧ as.Sublist l ∧ as.length = bs.length ∧ ∀ (i : Nat) (a : α) (b : β), as[i]? = some a → bs[i]? = some b → P a b := by
    intro l
    induction l with
    | nil => rintro e _ ⟨m, he⟩; exact ⟨[], [], e, m, rfl, he, List.Sublist.refl _, rfl, fun i a b h => by simp at h⟩
    | cons x xs ih =>
      rintro e h ⟨m, he⟩
      obtain ⟨⟨c, e1⟩, h1, h2, h2'⟩ := h 0 x m (by simp) (by simp)
      have h1' : ((bindT (wipe (E m) own) t (f x)).bind fun e => tst (evX G Φ cc true e)) = some (c, e1) := h1
      have ht : ∀ i a m, i < xs.length → xs[i]? = some a → _ := fun i a m hi ha => h (i + 1) a m (by simp; omega) (by simpa using ha)
      cases c with
      | true =>
        obtain ⟨⟨d, e2⟩, h3, b, m', rfl, hb, h4⟩ := h2 rfl
        have h3' : ((evX G Φ elt false e1).bind fun (r, e) => fz e r) = some (k b, e2) := h3
        obtain ⟨as, bs, e', m2, h5, h6, h7, h8, h9⟩ := ih e2 ht ⟨m', h4⟩
        refine ⟨x :: as, b :: bs, e', m2, ?_, h6, h7.cons_cons x, by simp [h8], ?_⟩
        · unfold cmpIfL at h5 ⊢
          rw [List.map_cons, compIfL, he, h1', Option.bind_some]
          dsimp only
          rw [if_pos rfl, h3', Option.bind_some]
          dsimp only
          rw [h5]
          rfl
        · intro i a b' ha hb'
          cases i with
          | zero => simp at ha hb'; subst ha; subst hb'; exact hb
          | succ i => exact h9 i a b' (by simpa using ha) (by simpa using hb')
      | false =>
        obtain ⟨m', h4⟩ := h2' rfl
        obtain ⟨as, bs, e', m2, h5, h6, h7, h8, h9⟩ := ih e1 ht ⟨m', h4⟩
        refine ⟨as, bs, e', m2, ?_, h6, h7.cons x, h8, h9⟩
        unfold cmpIfL at h5 ⊢
        rw [List.map_cons, compIfL, he, h1', Option.bind_some]
        dsimp only
        rw [if_neg (by simp), h5]
  obtain ⟨as, bs, e', m, h1, h2, h3, h4, h5⟩ := key l (E l0) hs ⟨l0, rfl⟩
  exact ⟨_, h1, by dsimp only; rw [hr m e' h2]; exact q as bs m h3 h4 h5⟩
/-- a loop over typed items -/
theorem W_fM {b : Ss} {Q : Out × Env → Prop} (I : Nat → Env → Prop) (h0 : I 0 env)
    (hs : ∀ i a e, i < l.length → l[i]? = some a → I i e → W ((bindT e t (f a)).bind fun e => exSs G Φ b e) fun p => match p.1 with
      | .next => I (i + 1) p.2
      | .brk => Q (.next, p.2)
      | .ret r => Q (.ret r, p.2))
    (q : ∀ e, I l.length e → Q (.next, e)) : W (forE G Φ t b (l.map f) env) Q := by
  refine W_for I h0 ?_ (by rw [List.length_map]; exact q)
  intro i x e hx hi
  rw [List.getElem?_map] at hx
  obtain ⟨a, ha, rfl⟩ := Option.map_eq_some_iff.mp hx
  exact hs i a e (List.getElem?_eq_some_iff.mp ha).1 ha hi
/-- a loop over a range -/
theorem W_fR {n : Nat} {f : Nat → D} {b : Ss} {Q : Out × Env → Prop} (I : Nat → Env → Prop) (h0 : I 0 env)
    (hs : ∀ i e, i < n → I i e → W ((bindT e t (f i)).bind fun e => exSs G Φ b e) fun p => match p.1 with
      | .next => I (i + 1) p.2
      | .brk => Q (.next, p.2)
      | .ret r => Q (.ret r, p.2))
    (q : ∀ e, I n e → Q (.next, e)) : W (forE G Φ t b ((List.range n).map f) env) Q := by
  refine W_fM I h0 ?_ (by rw [List.length_range]; exact q)
  intro i a e hi ha h
  rw [List.length_range] at hi
  rw [List.getElem?_range hi] at ha
  cases ha
  exact hs i e hi h
end
/-- what a draw gives, and what is left -/
def tv (l : List Int) (m : Int) : Int := match l.getLast? with
  | none => 0
  | some x => x.fmod m
theorem tv_nn {l : List Int} {m : Int} (h : 0 < m) : 0 ≤ tv l m := by
  unfold tv; split
  · exact Int.le_refl _
  · exact Int.fmod_nonneg_of_pos _ h
theorem tv_lt {l : List Int} {m : Int} (h : 0 < m) : tv l m < m := by
  unfold tv; split
  · exact h
  · exact Int.fmod_lt_of_pos _ h
theorem take_eq {G : List D} {P : List Fn} {f : Nat} (h : P[f]? = some f_take) (n : Nat) (l : List Int) (m : Int) (hm : 0 < m) :
    callF G P (n + 1) f [.cell (l.map D.int), .val (.int m)] = some (.val (.int (tv l m)), [.cell (l.dropLast.map D.int), .val (.int m)]) := by
  rw [callF_succ h]
  rcases List.eq_nil_or_concat l with rfl | ⟨l', x, rfl⟩
  · refine W.get (run_ok rfl rfl ?_)
    wtm_at "m"
    exact ⟨fun _ => rfl, fun h => absurd rfl h⟩
  · refine W.get (run_ok rfl rfl ?_)
    wtm_at "m"
    refine ⟨fun h => by simp at h; omega, fun _ => ⟨.int x, by simp, ?_⟩⟩
    wtm_at "m"
    refine ⟨fun _ => ?_, fun h => absurd h (by omega)⟩
    simp [outB, get0, getS, List.range, List.range.loop, tv]
/-- values that the law's own look takes for the same -/
def Fl (k : Nat) (d : D) : Prop := flatD d = true ∧ depD d < k
theorem Fl_int {k : Nat} {i : Int} : Fl (k + 1) (.int i) := ⟨rfl, Nat.succ_pos _⟩
theorem Fl_bl {k : Nat} {i : Bool} : Fl (k + 1) (.bl i) := ⟨rfl, Nat.succ_pos _⟩
theorem Fl_str {k : Nat} {i : List Nat} : Fl (k + 1) (.str i) := ⟨rfl, Nat.succ_pos _⟩
theorem Fl_non {k : Nat} : Fl (k + 1) .non := ⟨rfl, Nat.succ_pos _⟩
theorem flats_iff {xs : List D} : flatD.flats xs = true ↔ ∀ x ∈ xs, flatD x = true := by
  induction xs with
  | nil => simp [flatD.flats]
  | cons x xs ih => simp [flatD.flats, ih]
theorem depDs_lt {k : Nat} {xs : List D} : depDs xs < k + 1 ↔ ∀ x ∈ xs, depD x < k + 1 := by
  induction xs with
  | nil => simp [depDs]
  | cons x xs ih =>
    rw [depDs, List.forall_mem_cons, ← ih]
    omega
theorem Fl_tup {k : Nat} {xs : List D} (h : ∀ x ∈ xs, Fl (k + 1) x) (hl : xs.length ≤ 1000000) : Fl (k + 2) (.tup xs) := by
  refine ⟨?_, ?_⟩
  · simp only [flatD, Bool.and_eq_true, decide_eq_true_eq]
    exact ⟨flats_iff.mpr fun x hx => (h x hx).1, hl⟩
  · show depDs xs + 1 < k + 2
    have := (depDs_lt (k := k) (xs := xs)).mpr fun x hx => (h x hx).2
    omega
theorem Fl_map {α : Type} {f : α → D} {k : Nat} {l : List α} (h : ∀ a ∈ l, Fl (k + 1) (f a)) (hl : l.length ≤ 1000000) : Fl (k + 2) (.tup (l.map f)) := Fl_tup (fun x hx => by obtain ⟨a, ha, rfl⟩ := List.mem_map.mp hx; exact h a ha) (by rw [List.length_map]; exact hl)
theorem same_eq {G : List D} {P : List Fn} {f : Nat} (h : P[f]? = some (f_sameA f) ∨ P[f]? = some (f_sameB f)) {k n : Nat} {d : D} (hd : Fl k d) (hn : k ≤ n) : callF G P n f [.val d, .val d] = some (.val (.bl true), [.val d, .val d]) := same_ok h n d hd.1 (Nat.lt_of_lt_of_le hd.2 hn)
def isNonD : D → Bool
  | .non => true
  | _ => false
theorem X_isN' {G : List D} {Φ : Calls} {env : Env} {a : E} {y : Bool} : evX G Φ (.isN a y) false env = (evX G Φ a false env).bind fun p => (pk p.2 p.1).map fun x => (.val (.bl (isNonD x == y)), p.2) := rfl
theorem isNon_non : isNonD .non = true := rfl
theorem isNon_int {i : Int} : isNonD (.int i) = false := rfl
theorem isNon_tup {l : List D} : isNonD (.tup l) = false := rfl
theorem isNon_str {l : List Nat} : isNonD (.str l) = false := rfl
theorem isNon_bl {b : Bool} : isNonD (.bl b) = false := rfl
theorem eqt {b : Bool} : (b == true) = b := by cases b <;> rfl
theorem eqf {b : Bool} : (b == false) = !b := by cases b <;> rfl
theorem iv_p {p : Prop} [Decidable p] {a b : D} : idxD (.vl [a, b]) (if p then 1 else 0) = some (if p then b else a) := by by_cases h : p <;> simp only [h, if_true, if_false] <;> rfl
theorem it_p {p : Prop} [Decidable p] {a b : D} : idxD (.tup [a, b]) (if p then 1 else 0) = some (if p then b else a) := by by_cases h : p <;> simp only [h, if_true, if_false] <;> rfl
theorem if_and {c : Prop} [Decidable c] {k : Bool} {e : Env} : (if c then some (k, e) else some (false, e)) = some (decide c && k, e) := by by_cases h : c <;> simp [h]
theorem if_or {c : Prop} [Decidable c] {k : Bool} {e : Env} : (if c then some (true, e) else some (k, e)) = some (decide c || k, e) := by by_cases h : c <;> simp [h]
theorem mulH {i j : Int} (h : mulOk i j = true) : binop .mul (.int i) (.int j) = some (.val (.int (i * j))) := by rw [mul_i, h]; rfl
theorem bmulH {i j : Int} (h : mulOk i j = true) : binI .mul (.int i) (.int j) = some (.val (.int (i * j))) := by rw [bmul_i, h]; rfl
theorem fdivH {i j : Int} (h : divOk j = true) : binop .fdiv (.int i) (.int j) = some (.val (.int (i.fdiv j))) := by rw [fdiv_i, h]; rfl
theorem bfdivH {i j : Int} (h : divOk j = true) : binI .fdiv (.int i) (.int j) = some (.val (.int (i.fdiv j))) := by rw [bfdiv_i, h]; rfl
def appC (b : B) (env : Env) (i : Nat) (d : D) : Option Env := match b with
  | .cell xs => if xs.length < LIM then some (env.set i (.cell (xs ++ [d]))) else none
  | _ => none
theorem appL_eq {env : Env} {i : Nat} {d : D} : appL env i d = appC (get env i) env i d := rfl
theorem appC_ok {xs : List D} {env : Env} {i : Nat} {d : D} (h : xs.length < 16777216) : appC (.cell xs) env i d = some (env.set i (.cell (xs ++ [d]))) := by
  unfold appC; dsimp only; rw [if_pos (by rw [LIM_val]; exact h)]
def setC (b : B) (env : Env) (i : Nat) (k : Int) (d : D) : Option Env := match b with
  | .cell xs => (ixP xs.length k).map fun j => env.set i (.cell (xs.set j d))
  | _ => none
theorem setL_eq {env : Env} {i : Nat} {k : Int} {d : D} : setL env i k d = setC (get env i) env i k d := rfl
theorem setC_ok {xs : List D} {env : Env} {i k : Nat} {d : D} (h : k < xs.length) : setC (.cell xs) env i (k : Int) d = some (env.set i (.cell (xs.set k d))) := by
  unfold setC; dsimp only; rw [ix_nat h]; rfl
theorem setC_i {xs : List D} {env : Env} {i : Nat} {k : Int} {d : D} (h0 : 0 ≤ k) (h : k < xs.length) : setC (.cell xs) env i k d = some (env.set i (.cell (xs.set k.toNat d))) := by
  unfold setC; dsimp only; rw [at_in h0 h]; rfl
theorem W_st {G : List D} {Φ : Calls} {env : Env} {s : S} {ss : Ss} {Q : Out × Env → Prop} (h : W (exS G Φ s env) fun p => match p.1 with
    | .next => W (exSs G Φ ss p.2) Q
    | .brk => Q (.brk, p.2)
    | .ret r => Q (.ret r, p.2)) : W (exSs G Φ (.cons s ss) env) Q := by
  rw [Ss_cons, W_bind]
  refine W_mono h ?_
  rintro ⟨o, e⟩ q
  cases o with
  | next => exact q
  | brk => exact W_some.mpr q
  | ret r => exact W_some.mpr q
/-- what comes behind a statement, unseen -/
def KK (G : List D) (Φ : Calls) (ss : Ss) (Q K : Out × Env → Prop) : Prop := (∀ e, W (exSs G Φ ss e) Q → K (.next, e)) ∧ (∀ e, Q (.brk, e) → K (.brk, e)) ∧ ∀ r e, Q (.ret r, e) → K (.ret r, e)
section
variable {G : List D} {Φ : Calls} {env e : Env} {s : S} {ss : Ss} {Q K : Out × Env → Prop} {r : RV}
theorem W_sK (h : ∀ K : Out × Env → Prop, KK G Φ ss Q K → W (exS G Φ s env) K) : W (exSs G Φ (.cons s ss) env) Q := by
  refine W_st (W_mono (h (fun p => match p.1 with
    | .next => W (exSs G Φ ss p.2) Q
    | .brk => Q (.brk, p.2)
    | .ret r => Q (.ret r, p.2)) ⟨fun e h => h, fun e h => h, fun r e h => h⟩) fun _ q => q)
theorem KK.nx (h : KK G Φ ss Q K) (w : W (exSs G Φ ss e) Q) : K (.next, e) := h.1 e w
theorem KK.bk (h : KK G Φ ss Q K) (w : Q (.brk, e)) : K (.brk, e) := h.2.1 e w
theorem KK.rt (h : KK G Φ ss Q K) (w : Q (.ret r, e)) : K (.ret r, e) := h.2.2 r e w
end
theorem W_sn {G : List D} {Φ : Calls} {env : Env} {Q : Out × Env → Prop} (h : Q (.next, env)) : W (exSs G Φ .nil env) Q := W_some.mpr h
/-- a while, by a measure -/
theorem W_wh {G : List D} {Φ : Calls} {c : E} {b : Ss} {env : Env} {Q : Out × Env → Prop} (I : Nat → Env → Prop) (m : Nat) (hm : m < W0) (h0 : I m env)
    (hs : ∀ k e, I k e → W (evT G Φ c e) fun p => if p.1 then 0 < k ∧ W (exSs G Φ b p.2) (fun s => match s.1 with
      | .next => I (k - 1) s.2
      | .brk => Q (.next, s.2)
      | .ret r => Q (.ret r, s.2)) else Q (.next, p.2)) : W (whE G Φ c b env) Q := by
  have key : ∀ (n k : Nat) (e : Env), k < n → I k e → W (whL (evT G Φ c) (exSs G Φ b) n e) Q := by
    intro n
    induction n with
    | zero => intro k e h; omega
    | succ n ih =>
      intro k e hk hi
      obtain ⟨⟨z, e1⟩, h1, h2⟩ := hs k e hi
      unfold whL
      rw [h1, Option.bind_some]
      dsimp only
      cases z with
      | false => rw [if_neg (by simp)]; exact ⟨_, rfl, by simpa using h2⟩
      | true =>
        simp only [if_true] at h2
        obtain ⟨h3, ⟨o, e2⟩, h4, h5⟩ := h2
        rw [if_pos rfl, h4, Option.bind_some]
        cases o with
        | next => exact ih (k - 1) e2 (by omega) h5
        | brk => exact ⟨_, rfl, h5⟩
        | ret r => exact ⟨_, rfl, h5⟩
  exact key W0 m env hm h0
end PL

/-! Plain laws: slices, cells, draws by place. -/
namespace PL
open Mini
theorem tn1 {k : Nat} : ((k : Int) + 1).toNat = k + 1 := by omega
theorem cutT {xs : List D} {i : Int} (h : 0 ≤ i) : cut xs none (some i) = xs.take i.toNat := by
  unfold cut bndH bndL bnd
  dsimp only
  rw [if_pos h, List.drop_zero]
  by_cases hl : i.toNat ≤ xs.length
  · rw [Nat.min_eq_left hl]
  · rw [Nat.min_eq_right (by omega), List.take_of_length_le (Nat.le_refl _), List.take_of_length_le (by omega)]
theorem cutF {xs : List D} {i : Int} (h : 0 ≤ i) : cut xs (some i) none = xs.drop i.toNat := by
  unfold cut bndH bndL bnd
  dsimp only
  rw [if_pos h, List.take_of_length_le (Nat.le_refl _)]
  by_cases hl : i.toNat ≤ xs.length
  · rw [Nat.min_eq_left hl]
  · rw [Nat.min_eq_right (by omega), List.drop_of_length_le (Nat.le_refl _), List.drop_of_length_le (by omega)]
theorem slT_t {xs : List D} {i : Int} (h : 0 ≤ i) : slcD (.tup xs) none (some i) = some (.val (.tup (xs.take i.toNat))) := by
  show some (RV.val (.tup (cut xs none (some i)))) = _; rw [cutT h]
theorem slF_t {xs : List D} {i : Int} (h : 0 ≤ i) : slcD (.tup xs) (some i) none = some (.val (.tup (xs.drop i.toNat))) := by
  show some (RV.val (.tup (cut xs (some i) none))) = _; rw [cutF h]
theorem slT_v {xs : List D} {i : Int} (h : 0 ≤ i) : slcD (.vl xs) none (some i) = some (.own (xs.take i.toNat)) := by
  show some (RV.own (cut xs none (some i))) = _; rw [cutT h]
theorem slF_v {xs : List D} {i : Int} (h : 0 ≤ i) : slcD (.vl xs) (some i) none = some (.own (xs.drop i.toNat)) := by
  show some (RV.own (cut xs (some i) none)) = _; rw [cutF h]
theorem r3' {a b c : Int} (h1 : -1000000000 ≤ a) (h2 : a ≤ 1000000000) (h3 : -1000000000 ≤ b) (h4 : b ≤ 1000000000) (h5 : c ≠ 0) (h6 : c.natAbs < 1073741824) : rngD [.int a, .int b, .int c] = some (rngList a (rngN a b c) c) := by
  show (if _ then _ else _) = _
  rw [rngOk_of h1 h2, rngOk_of h3 h4, decide_eq_true h5, decide_eq_true h6]; rfl
section
variable {G : List D} {Φ : Calls} {env : Env} {α β : Type} {f : α → D} {l : List α} {own : List Nat} {elt cc : E} {t : T} {Q : List D × Env → Prop}
theorem set_get {j : Nat} {b : B} (h : get env j = b) (hb : j < env.length) : env.set j b = env := by
  apply env_ext
  · rw [List.length_set]
  · intro i
    by_cases e : j = i
    · subst e
      rw [h]
      unfold Mini.get
      rw [List.getD_eq_getElem?_getD, List.getElem?_set_self hb]; rfl
    · unfold Mini.get
      rw [List.getD_eq_getElem?_getD, List.getD_eq_getElem?_getD, List.getElem?_set_ne e]
theorem get_set_ne {j i : Nat} {b : B} (h : j ≠ i) : get (env.set j b) i = get env i := by
  unfold Mini.get
  rw [List.getD_eq_getElem?_getD, List.getD_eq_getElem?_getD, List.getElem?_set_ne h]
theorem restore_set {j : Nat} {a b : B} (hj : j ∉ own) {e : Env} (h : wipe e own = wipe (env.set j b) own) : restore (env.set j a) e own = env.set j b := by
  have hl : env.length = e.length := by
    have := congrArg List.length h
    rw [MS.wipe_length, MS.wipe_length, List.length_set] at this
    exact this.symm
  apply env_ext
  · rw [MS.restore_len, List.length_set, hl]
  · intro i
    rw [MS.get_restore (by rw [List.length_set]; exact hl)]
    by_cases hi : i ∈ own
    · rw [if_pos hi, get_set_ne (fun (z : j = i) => hj (z ▸ hi)), get_set_ne (fun (z : j = i) => hj (z ▸ hi))]
    · rw [if_neg hi]
      have := congrArg (fun z => get z i) h
      simpa [MS.get_wipe, hi] using this
/-- a comprehension that draws: the draws are the j-th name's list -/
theorem W_cJ (j : Nat) (k : β → D) (P : Nat → β → Prop) {l0 : List Int} (h0 : get env j = .cell (l0.map D.int)) (hb : j < env.length) (hj : j ∉ own)
    (hs : ∀ i a (m : List Int), i < l.length → l[i]? = some a → W ((bindT (wipe (env.set j (.cell (m.map D.int))) own) t (f a)).bind fun e => (evX G Φ elt false e).bind fun p => fz p.2 p.1) fun p => ∃ (b : β) (m' : List Int), p.1 = k b ∧ P i b ∧ wipe p.2 own = wipe (env.set j (.cell (m'.map D.int))) own)
    (q : ∀ (bs : List β) (m : List Int), bs.length = l.length → (∀ (i : Nat) (b : β), bs[i]? = some b → P i b) → Q (bs.map k, env.set j (.cell (m.map D.int)))) : W (cmpR G Φ own elt t (l.map f) env) Q :=
  W_cD k P (fun m => env.set j (.cell (m.map D.int))) l0 (set_get h0 hb).symm (fun m e h => restore_set hj h) hs q
/-- a filtered comprehension that draws in its test -/
theorem W_cIJ (j : Nat) (k : β → D) (P : α → β → Prop) {l0 : List Int} (h0 : get env j = .cell (l0.map D.int)) (hb : j < env.length) (hj : j ∉ own)
    (hs : ∀ i a (m : List Int), i < l.length → l[i]? = some a → W ((bindT (wipe (env.set j (.cell (m.map D.int))) own) t (f a)).bind fun e => tst (evX G Φ cc true e)) fun p => (p.1 = true → W ((evX G Φ elt false p.2).bind fun p => fz p.2 p.1) fun p => ∃ (b : β) (m' : List Int), p.1 = k b ∧ P a b ∧ wipe p.2 own = wipe (env.set j (.cell (m'.map D.int))) own) ∧ (p.1 = false → ∃ m' : List Int, wipe p.2 own = wipe (env.set j (.cell (m'.map D.int))) own))
    (q : ∀ (as : List α) (bs : List β) (m : List Int), as.Sublist l → as.length = bs.length → (∀ (i : Nat) (a : α) (b : β), as[i]? = some a → bs[i]? = some b → P a b) → Q (bs.map k, env.set j (.cell (m.map D.int)))) : W (cmpIfR G Φ own elt t cc (l.map f) env) Q :=
  W_cID k P (fun m => env.set j (.cell (m.map D.int))) l0 (set_get h0 hb).symm (fun m e h => restore_set hj h) hs q
end
/-- what a cell gives -/
def cv (p : Nat) (ns : List Int) (at_ : Int) : Int :=
  let c := gt ns (at_.fmod ns.length).toNat
  if ns.length = 0 then 0 else ((c.natAbs : Int).fmod (10 ^ p)) * (if c < 0 then -1 else 1)
theorem cv_lt {p : Nat} {ns : List Int} {a : Int} : (cv p ns a).natAbs < 10 ^ p := by
  unfold cv
  have hp : 0 < 10 ^ p := Nat.pow_pos (by decide)
  have hp' : (0 : Int) < 10 ^ p := by exact_mod_cast hp
  split
  · exact hp
  · have h1 := Int.fmod_nonneg_of_pos ((gt ns (a.fmod ns.length).toNat).natAbs : Int) hp'
    have h2 := Int.fmod_lt_of_pos ((gt ns (a.fmod ns.length).toNat).natAbs : Int) hp'
    rw [Int.natAbs_mul]
    have h3 : (if gt ns (a.fmod ns.length).toNat < 0 then (-1 : Int) else 1).natAbs = 1 := by split <;> rfl
    rw [h3, Nat.mul_one]
    have : ((((gt ns (a.fmod ns.length).toNat).natAbs : Int).fmod (10 ^ p)).natAbs : Int) < ((10 ^ p : Nat) : Int) := by
      rw [Int.natAbs_of_nonneg h1]; exact_mod_cast h2
    exact_mod_cast this
def f_cellP (p : Nat) : Fn := ⟨2, 3, [],
(.cons (.ite (.cmp .eq (.bi .len (.cons (.var 0) .nil)) (.int 0))
(.cons (.ret (.int 0))
.nil)
.nil)
(.cons (.asg 2 (.bi .int (.cons (.idx (.var 0) (.bin .mod (.bi .int (.cons (.var 1) .nil)) (.bi .len (.cons (.var 0) .nil)))) .nil)))
(.cons (.ret (.bin .mul (.bin .mod (.bi .abs (.cons (.var 2) .nil)) (.bin .pow (.int 10) (.int p))) (.idx (.lst (.cons (.int 1) (.cons (.neg (.int 1)) .nil))) (.bi .int (.cons (.cmp .lt (.var 2) (.int 0)) .nil)))))
.nil)))⟩
local macro_rules | `(tactic| wtm_at "w") => `(tactic| simp (disch := (first | omega | assumption | (refine tv_nn ?_; omega) | (simp only [List.length_map, List.length_range, List.length_cons, List.length_nil, List.length_append, List.length_set, List.length_reverse, List.length_take, List.length_drop]; omega))) only [true_implies, false_implies, implies_true, not_true_eq_false, ne_eq, Int.reduceEq, Int.reduceNeg, Int.reduceToNat, reduceCtorEq, Bool.not_true, Bool.not_false, Classical.not_not, Int.toNat_natCast, MS.rngList_len, Nat.zero_le, List.contains_nil, Bool.and_true, Bool.true_and, Bool.and_false, Bool.false_and, List.map_nil, List.append_nil, Nat.reduceLT, Nat.reduceLeDiff, Int.reduceLT, Int.reduceLE, Nat.reduceMul, Int.reduceMul, Int.reduceAdd, Int.reduceSub, List.length_cons, List.length_nil, Nat.reduceAdd, Nat.reduceSub, Nat.zero_add, List.getElem?_cons_zero, List.getElem?_cons_succ, List.contains_cons, Nat.reduceBEq, Bool.or_false, Bool.or_true, Bool.false_or, outB_0, outB_1, outB_2, outB_3, outB_4, outB_5, outB_6, outB_7, outB_8, eq_ss, eq_nn, X_non, X_bl, T_bl, X_int, X_str, X_var, T_var, X_gl, X_tup, X_lst, X_bin, X_neg, X_cmp, T_cmp, X_chain, T_chain, X_isN', T_isN, isNon_non, isNon_int, isNon_tup, isNon_str, isNon_bl, eqt, eqf, X_isB, T_isB, X_ite, X_idx, T_idx, X_slT, X_slF, X_slB, X_rev, X_call, T_call, X_bi, T_bi, X_pop, X_popAt, X_mt, T_mt, X_rng, T_bin, X_not, T_not, X_and, T_and, X_or, T_or, V_nil, V_cons, R_nil, R_cons, AV_nil, AV_cons, OV_nil, OV_cons, A_nil, A_cons, O_nil, O_cons, S_asg, S_asgT, S_par, S_setI, S_aug, S_app, S_revI, S_expr, S_ret, S_retN, S_ite, S_for, S_while, S_brk, S_pass, S_kill, W_some, W_none, W_bind, W_map, W_ite, get0, getS, List.set_cons_zero, List.set_cons_succ, fin_f, fin_t, tst_eq, blR_bl, pk_val, pk_own, pk_ref, fz_val, fz_own, fz_ref, bindR_val, bindR_own, bindR_ref, intD_int, tru_bl, tru_int, tru_vl, tru_tup, tru_fl, tru_non, pks, bindT, setAll, bindRs, unref, wipe, unlock, itR, callB, refs, argB, argB1, backB, back1, noRef, augC, add_i, sub_i, badd_i, badd_t, bsub_i, c_eq, c_ne, c_lt, c_le, c_gt, c_ge, c_in_t, c_in_l, c_nin_t, c_nin_l, dok_l, dok_r, dep_int, dep_bl, dep_non, dep_str, eq_ii, eq_bb, b_len_t, b_len_v, b_len_f, b_tup_t, b_tup_v, b_tup_f, b_lst_t, b_lst_v, b_lst_f, b_min2, b_max2, b_abs, b_int_i, b_int_b, b_isB, b_isI, b_isS, b_isT, b_sum_v, b_sum_t, b_any_v, b_all_v, popL, outR_val, outR_own, outR_ref, List.nodup_nil, List.nodup_cons, List.not_mem_nil, not_false_eq_true, and_self, if_true, Bool.false_eq_true, if_false, List.mem_cons, or_false, true_and, and_true, decide_eq_true_eq, beq_iff_eq, Option.map_some, Option.bind_some, List.length_map, List.nil_append, List.cons_append, List.replicate, X_compR, X_compIfR, lim_ok, lim_filter, r1', r2', mul_i, bmul_i, fdiv_i, bfdiv_i, pow_i, mulOk_l, mulOk_r, divOk_of, powOk_of, modS, add_tS, add_lS, mul_lS, iT, iV, iTi, iVi, it0, it1, it2, it3, it4, iv0, iv1, iv2, iv3, iv_p, it_p, appL_eq, appC_ok, setL_eq, setC_ok, setC_i, slT_t, slF_t, slT_v, slF_v, r3', tn1, ← List.map_take, ← List.map_drop, ints_f, sum_v, sum_t, any_v, all_v, if_and, if_or, Int.cast_ofNat_Int, Int.zero_add, Int.add_zero, Bool.and_eq_true, Bool.or_eq_true, Bool.not_eq_true, Bool.not_eq_eq_eq_not, decide_eq_false_iff_not, decide_true, decide_false, List.length_range, Bool.decide_eq_true, List.isEmpty_cons])
local macro_rules | `(tactic| wtm_at "wx") => `(tactic| simp (disch := (first | omega | assumption | (refine tv_nn ?_; omega) | (simp only [List.length_map, List.length_range, List.length_cons, List.length_nil, List.length_append, List.length_set, List.length_reverse, List.length_take, List.length_drop]; omega))) only [*, true_implies, false_implies, implies_true, not_true_eq_false, ne_eq, Int.reduceEq, Int.reduceNeg, Int.reduceToNat, reduceCtorEq, Bool.not_true, Bool.not_false, Classical.not_not, Int.toNat_natCast, MS.rngList_len, Nat.zero_le, List.contains_nil, Bool.and_true, Bool.true_and, Bool.and_false, Bool.false_and, List.map_nil, List.append_nil, Nat.reduceLT, Nat.reduceLeDiff, Int.reduceLT, Int.reduceLE, Nat.reduceMul, Int.reduceMul, Int.reduceAdd, Int.reduceSub, List.length_cons, List.length_nil, Nat.reduceAdd, Nat.reduceSub, Nat.zero_add, List.getElem?_cons_zero, List.getElem?_cons_succ, List.contains_cons, Nat.reduceBEq, Bool.or_false, Bool.or_true, Bool.false_or, outB_0, outB_1, outB_2, outB_3, outB_4, outB_5, outB_6, outB_7, outB_8, eq_ss, eq_nn, X_non, X_bl, T_bl, X_int, X_str, X_var, T_var, X_gl, X_tup, X_lst, X_bin, X_neg, X_cmp, T_cmp, X_chain, T_chain, X_isN', T_isN, isNon_non, isNon_int, isNon_tup, isNon_str, isNon_bl, eqt, eqf, X_isB, T_isB, X_ite, X_idx, T_idx, X_slT, X_slF, X_slB, X_rev, X_call, T_call, X_bi, T_bi, X_pop, X_popAt, X_mt, T_mt, X_rng, T_bin, X_not, T_not, X_and, T_and, X_or, T_or, V_nil, V_cons, R_nil, R_cons, AV_nil, AV_cons, OV_nil, OV_cons, A_nil, A_cons, O_nil, O_cons, S_asg, S_asgT, S_par, S_setI, S_aug, S_app, S_revI, S_expr, S_ret, S_retN, S_ite, S_for, S_while, S_brk, S_pass, S_kill, W_some, W_none, W_bind, W_map, W_ite, get0, getS, List.set_cons_zero, List.set_cons_succ, fin_f, fin_t, tst_eq, blR_bl, pk_val, pk_own, pk_ref, fz_val, fz_own, fz_ref, bindR_val, bindR_own, bindR_ref, intD_int, tru_bl, tru_int, tru_vl, tru_tup, tru_fl, tru_non, pks, bindT, setAll, bindRs, unref, wipe, unlock, itR, callB, refs, argB, argB1, backB, back1, noRef, augC, add_i, sub_i, badd_i, badd_t, bsub_i, c_eq, c_ne, c_lt, c_le, c_gt, c_ge, c_in_t, c_in_l, c_nin_t, c_nin_l, dok_l, dok_r, dep_int, dep_bl, dep_non, dep_str, eq_ii, eq_bb, b_len_t, b_len_v, b_len_f, b_tup_t, b_tup_v, b_tup_f, b_lst_t, b_lst_v, b_lst_f, b_min2, b_max2, b_abs, b_int_i, b_int_b, b_isB, b_isI, b_isS, b_isT, b_sum_v, b_sum_t, b_any_v, b_all_v, popL, outR_val, outR_own, outR_ref, List.nodup_nil, List.nodup_cons, List.not_mem_nil, not_false_eq_true, and_self, if_true, Bool.false_eq_true, if_false, List.mem_cons, or_false, true_and, and_true, decide_eq_true_eq, beq_iff_eq, Option.map_some, Option.bind_some, List.length_map, List.nil_append, List.cons_append, List.replicate, X_compR, X_compIfR, lim_ok, lim_filter, r1', r2', mul_i, bmul_i, fdiv_i, bfdiv_i, pow_i, mulOk_l, mulOk_r, divOk_of, powOk_of, modS, add_tS, add_lS, mul_lS, iT, iV, iTi, iVi, it0, it1, it2, it3, it4, iv0, iv1, iv2, iv3, iv_p, it_p, appL_eq, appC_ok, setL_eq, setC_ok, setC_i, slT_t, slF_t, slT_v, slF_v, r3', tn1, ← List.map_take, ← List.map_drop, ints_f, sum_v, sum_t, any_v, all_v, if_and, if_or, Int.cast_ofNat_Int, Int.zero_add, Int.add_zero, Bool.and_eq_true, Bool.or_eq_true, Bool.not_eq_true, Bool.not_eq_eq_eq_not, decide_eq_false_iff_not, decide_true, decide_false, List.length_range, Bool.decide_eq_true, List.isEmpty_cons])
local macro_rules | `(tactic| wtm_at "s1") => `(tactic| (first | refine W_st ?_ | refine W_sn ?_) <;> (try wtm_at "wx"))
local macro_rules | `(tactic| wtm_at "go") => `(tactic| ((try simp only [bindT, setAll, Option.bind_some, List.set_cons_zero, List.set_cons_succ]); (first | (wtm_at "s1") | (wtm_at "wx")); repeat (wtm_at "s1")))
local macro_rules | `(tactic| wtm_at "s1") => `(tactic| first | (refine W_sK fun _ _ => ?_; try wtm_at "wx") | (refine W_sn ?_; try wtm_at "wx") | (refine KK.nx (by assumption) ?_; try wtm_at "wx") | (refine KK.rt (by assumption) ?_; try wtm_at "wx") | (refine KK.bk (by assumption) ?_; try wtm_at "wx"))
local macro_rules | `(tactic| wtm_at "go") => `(tactic| ((try simp only [bindT, setAll, Option.bind_some, List.set_cons_zero, List.set_cons_succ]); (first | (wtm_at "s1") | (wtm_at "wx")); repeat (wtm_at "s1")))
local macro_rules | `(tactic| wtm_at "ws") => `(tactic| ((wtm_at "s1"); repeat (wtm_at "s1")))

theorem iF {α : Type} [Inhabited α] {f : α → D} {l : List α} {i : Int} (h0 : 0 ≤ i) (h : i < l.length) : idxD (.fl (l.map f)) i = some (f (gt l i.toNat)) := by
  obtain ⟨k, rfl⟩ := Int.eq_ofNat_of_zero_le h0
  rw [ix_f, List.length_map, ix_nat (by omega), Option.bind_some, List.getElem?_map, gt_some (by omega)]; rfl
theorem cell_eq {G : List D} {P : List Fn} {f p : Nat} (h : P[f]? = some (f_cellP p)) (hp : p ≤ 1000000) (n : Nat) (ns : List Int) (a : Int) :
    callF G P (n + 1) f [.val (.fl (ns.map D.int)), .val (.int a)] = some (.val (.int (cv p ns a)), [.val (.fl (ns.map D.int)), .val (.int a)]) := by
  rw [callF_succ h]; refine W.get (run_ok rfl rfl ?_)
  by_cases hz : ns.length = 0
  · have hz' : (ns.length : Int) = 0 := by omega
    have e : cv p ns a = 0 := by unfold cv; rw [if_pos hz]
    clear hz
    wtm_at "ws"
  · have hz' : ¬ (ns.length : Int) = 0 := by omega
    have h1 := Int.fmod_nonneg_of_pos a (b := ns.length) (by omega)
    have h2 := Int.fmod_lt_of_pos a (b := ns.length) (by omega)
    have h3 : (10 : Int) ^ p ≠ 0 := by
      have : (0 : Int) < 10 ^ p := by exact_mod_cast Nat.pow_pos (n := p) (show 0 < 10 by decide)
      omega
    have hi := @iF Int _ D.int ns
    unfold cv
    rw [if_neg hz]
    clear hz
    by_cases hc : gt ns (a.fmod ns.length).toNat < 0
    · wtm_at "ws"
    · wtm_at "ws"
/-- the first, or another -/
def hd {α : Type} (l : List α) (f : α → D) (d : D) : D := match l with
  | [] => d
  | a :: _ => f a
theorem idx_hd {α : Type} {l : List α} {f : α → D} {d : D} : idxD (.vl (l.map f ++ [d])) 0 = some (hd l f d) := by
  cases l with
  | nil => exact iv0
  | cons a l => exact iv0
theorem hd_get {α : Type} {l : List α} {f : α → D} {d : D} : hd l f d = (l.head?.map f).getD d := by cases l <;> rfl
theorem first_some {n i : Nat} {p : Nat → Bool} (h : ∀ j, j < i → p j = false) (hi : i < n) (hp : p i = true) : ((List.range n).filter p).head? = some i := by
  induction n generalizing i with
  | zero => omega
  | succ n ih =>
    rw [List.range_succ, List.filter_append]
    by_cases e : i < n
    · rw [List.head?_append, ih h e hp]; rfl
    · have : i = n := by omega
      subst this
      have : (List.range i).filter p = [] := by
        rw [List.filter_eq_nil_iff]
        intro j hj
        rw [h j (List.mem_range.mp hj)]; simp
      rw [this, List.nil_append, List.filter_cons_of_pos hp]; rfl
theorem first_none {n : Nat} {p : Nat → Bool} (h : ∀ j, j < n → p j = false) : (List.range n).filter p = [] := by
  rw [List.filter_eq_nil_iff]
  intro j hj
  rw [h j (List.mem_range.mp hj)]; simp
theorem range_filter_snoc {n : Nat} {p : Nat → Bool} : (List.range (n + 1)).filter p = (List.range n).filter p ++ if p n then [n] else [] := by
  rw [List.range_succ, List.filter_append]
  cases h : p n <;> simp [h]
theorem len_filter_range {n : Nat} {p : Nat → Bool} : ((List.range n).filter p).length ≤ n := by
  have := List.length_filter_le p (List.range n)
  rwa [List.length_range] at this
section
variable {G : List D} {Φ : Calls} {env : Env} {α β : Type} {f : α → D} {l : List α} {own : List Nat} {elt cc : E} {t : T} {Q : List D × Env → Prop}
/-- a filtered comprehension, what stays by a name -/
theorem W_cF (r : List α) (c : α → Bool) (g : α → D) (hr : l.filter c = r)
    (hs : ∀ a ∈ l, W ((bindT (wipe env own) t (f a)).bind fun e => tst (evX G Φ cc true e)) fun p => p.1 = c a ∧ (c a = true → W ((evX G Φ elt false p.2).bind fun p => fz p.2 p.1) fun p => p.1 = g a ∧ wipe p.2 own = wipe env own) ∧ (c a = false → wipe p.2 own = wipe env own))
    (q : Q (r.map g, env)) : W (cmpIfR G Φ own elt t cc (l.map f) env) Q := W_cI c g hs (by rw [hr]; exact q)
end
theorem draws_okB {G : List D} {P : List Fn} {f n m : Nat} (h : P[f]? = some f_drawsB) (ns : List Int) (hl : ns.length ≤ 63) (hm : m ≤ 100000) :
    ∃ l : List Int, callF G P (n + 1) f [.val (.fl (ns.map D.int)), .val (.int m)] = some (.own (l.map D.int), [.val (.fl (ns.map D.int)), .val (.int m)]) := by
  have key : W (callF G P (n + 1) f [.val (.fl (ns.map D.int)), .val (.int m)]) fun p => ∃ l : List Int, p = (.own (l.map D.int), [.val (.fl (ns.map D.int)), .val (.int m)]) := by
    have one : [D.int 0] = ([0] : List Int).map D.int := rfl
    rw [callF_succ h]
    refine run_ok rfl rfl ?_
    have e : ∀ (Q : Out × Env → Prop), (∀ cs : List Int, cs ≠ [] → Q (.next, [.val (.fl (ns.map D.int)), .val (.int m), .cell (cs.map D.int), .no, .no, .no, .no, .no, .no])) → W (exS G (callF G P n) (.asg 2 (.bin .add (.comp [3] (.bi .int (.cons (.var 3) .nil)) (.nm 3) (.var 0)) (.bin .mul (.lst (.cons (.int 0) .nil)) (.bi .int (.cons (.cmp .eq (.bi .len (.cons (.var 0) .nil)) (.int 0)) .nil))))) [.val (.fl (ns.map D.int)), .val (.int m), .no, .no, .no, .no, .no, .no, .no]) Q := by
      intro Q q
      clear one h
      wtm_at "w"
      refine W_cM D.int ?_ ?_
      · intro a _
        wtm_at "w"
      · cases ns with
        | nil =>
          have q := q [0] (by simp)
          wtm_at "w"
          exact q
        | cons x xs =>
          have q := q (x :: xs) (by simp)
          have hz : ¬ ((x :: xs).length : Int) = 0 := by simp; omega
          have e0 : ((List.range 0).map fun _ => D.int 0) = [] := rfl
          generalize hy : x :: xs = ys at *
          clear hy
          wtm_at "w"
          rw [if_neg hz]
          wtm_at "w"
          rw [e0, List.append_nil]
          exact q
    rw [Ss_cons, W_bind]
    refine e _ fun cs hc => ?_
    have tail : ∀ Q : Out × Env → Prop, (∀ (rs ds : List Int), Q (.next, [.val (.fl (ns.map D.int)), .val (.int m), .cell (cs.map D.int), .no, .cell (rs.map D.int), .cell (ds.map D.int), .no, .no, .no])) →
        W (forE G (callF G P n) (.nm 6) drawsLoop (rngList 0 m 1) [.val (.fl (ns.map D.int)), .val (.int m), .cell (cs.map D.int), .no, .cell (cs.map D.int), .cell [], .no, .no, .no]) Q := fun Q q => draws_loop hc q hm
    rw [rng_0] at tail
    have key : W (exSs G (callF G P n) (.cons (.asg 4 (.bi .list (.cons (.var 2) .nil))) (.cons (.asg 5 (.lst .nil)) (.cons (.for (.nm 6) (.rng (.cons (.var 1) .nil)) drawsLoop) (.cons (.revI 5) (.cons (.ret (.var 5)) .nil))))) [.val (.fl (ns.map D.int)), .val (.int m), .cell (cs.map D.int), .no, .no, .no, .no, .no, .no]) fun p => ∃ (l : List Int) (e : Env), p = (.ret (.ref 5), e) ∧ get e 5 = .cell (l.map D.int) ∧ get e 0 = .val (.fl (ns.map D.int)) ∧ get e 1 = .val (.int m) := by
      wtm_at "ws"
      refine tail _ fun rs ds => ?_
      wtm_at "ws"
      exact ⟨ds.reverse, _, rfl, by rw [List.map_reverse]; rfl, rfl, rfl⟩
    refine W_mono key ?_
    rintro p ⟨l, e, rfl, h1, h2, h3⟩
    dsimp only
    rw [outR_ref, if_neg (by decide), h1]
    refine ⟨_, rfl, l, ?_⟩
    rw [outB_2, h2, h3]; rfl
  obtain ⟨p, h1, l, h2⟩ := key
  exact ⟨l, by rw [h1, h2]⟩
theorem tv_na {l : List Int} {m : Int} (h : 0 < m) (h2 : m ≤ 1000000000) : (tv l m).natAbs < 2 ^ 64 := by
  have := tv_nn (l := l) h
  have := tv_lt (l := l) h
  omega
theorem dok_ints {α : Type} {l : List α} {f : α → Int} {n : Nat} : dok (depD (.tup (l.map fun a => D.int (f a)))) n = true := by
  have : depD (.tup (l.map fun a => D.int (f a))) < 2 := (Fl_tup (k := 0) (xs := []) (fun _ h => by cases h) (by decide)).2 |> fun _ => by
    show depDs _ + 1 < 2
    have := (depDs_lt (k := 0) (xs := l.map fun a => D.int (f a))).mpr fun x hx => by
      obtain ⟨a, _, rfl⟩ := List.mem_map.mp hx
      exact Nat.succ_pos _
    omega
  unfold dok
  rw [decide_eq_true (by omega), Bool.true_or]
theorem dok_Fl {k n : Nat} {d : D} (h : Fl k d) (hk : k ≤ 60) : dok (depD d) n = true := by
  unfold dok
  rw [decide_eq_true (by have := h.2; omega), Bool.true_or]
mutual
theorem eqD_self : ∀ d : D, flatD d = true → eqD d d = true
  | .non, _ => rfl
  | .bl b, _ => by simp [eqD]
  | .int i, _ => by simp [eqD]
  | .str s, _ => by simp [eqD]
  | .tup xs, h => by
    simp only [eqD]
    exact eqDs_self xs (flat_tup h).1
  | .vl xs, h => by cases h
  | .fl xs, h => by cases h
theorem eqDs_self : ∀ ds : List D, flatD.flats ds = true → eqDs ds ds = true
  | [], _ => rfl
  | d :: ds, h => by
    simp only [flatD.flats, Bool.and_eq_true] at h
    simp only [eqDs, eqD_self d h.1, eqDs_self ds h.2, Bool.and_self]
end
theorem eqD_Fl {k : Nat} {d : D} (h : Fl k d) : eqD d d = true := eqD_self d h.1
theorem Fl_ints {α : Type} {l : List α} {f : α → Int} {k : Nat} (h : l.length ≤ 1000000) : Fl (k + 2) (.tup (l.map fun a => D.int (f a))) := Fl_map (fun a _ => Fl_int) h
theorem isin_nat {l : List Nat} {j : Nat} : isinD (.int (j : Int)) (l.map fun k : Nat => D.int (k : Int)) = decide (j ∈ l) := by
  induction l with
  | nil => rfl
  | cons a l ih =>
    show (eqD (.int a) (.int j) || isinD _ (l.map _)) = _
    rw [ih, eq_ii, Bool.eq_iff_iff]
    simp only [Bool.or_eq_true, beq_iff_eq, decide_eq_true_eq, List.mem_cons]
    exact ⟨fun h => h.imp (fun h => by omega) id, fun h => h.imp (fun h => by omega) id⟩
theorem isin_int {l : List Int} {j : Int} : isinD (.int j) (l.map D.int) = decide (j ∈ l) := by
  induction l with
  | nil => rfl
  | cons a l ih =>
    show (eqD (.int a) (.int j) || isinD _ (l.map _)) = _
    rw [ih, eq_ii, Bool.eq_iff_iff]
    simp only [Bool.or_eq_true, beq_iff_eq, decide_eq_true_eq, List.mem_cons]
    exact ⟨fun h => h.imp Eq.symm id, fun h => h.imp Eq.symm id⟩
theorem ite_ints {p : Prop} [Decidable p] {a b : Int} : (if p then D.int a else D.int b) = D.int (if p then a else b) := by by_cases h : p <;> simp [h]
theorem filter_len {α : Type} [Inhabited α] {l : List α} {p : α → Bool} : (l.filter p).length = ((List.range l.length).filter fun k => p (gt l k)).length := by
  have : l = (List.range l.length).map (gt l) := by
    apply List.ext_getElem?
    intro i
    by_cases h : i < l.length
    · rw [gt_some h, List.getElem?_map, List.getElem?_range h]; rfl
    · rw [List.getElem?_eq_none (by omega), List.getElem?_eq_none (by rw [List.length_map, List.length_range]; omega)]
  conv => lhs; rw [this, List.filter_map, List.length_map]
  rfl
theorem len_gt {α : Type} [Inhabited α] {l : List α} : l = (List.range l.length).map (gt l) := by
  apply List.ext_getElem?
  intro i
  by_cases h : i < l.length
  · rw [gt_some h, List.getElem?_map, List.getElem?_range h]; rfl
  · rw [List.getElem?_eq_none (by omega), List.getElem?_eq_none (by rw [List.length_map, List.length_range]; omega)]
/-- a while, by a measure; its test taken apart -/
theorem W_wt {G : List D} {Φ : Calls} {c : E} {b : Ss} {env : Env} {Q : Out × Env → Prop} (I : Nat → Env → Prop) (m : Nat) (hm : m ≤ 1000000000000) (h0 : I m env)
    (hs : ∀ k e, I k e → W (tst (evX G Φ c true e)) fun p => (p.1 = true → 0 < k ∧ W (exSs G Φ b p.2) (fun s => match s.1 with
      | .next => I (k - 1) s.2
      | .brk => Q (.next, s.2)
      | .ret r => Q (.ret r, s.2))) ∧ (p.1 = false → Q (.next, p.2))) : W (whE G Φ c b env) Q := by
  refine W_wh I m ?_ h0 fun k e hi => ?_
  · have : (1000000000000 : Nat) < 2 ^ 40 := by decide
    have : (2 : Nat) ^ 40 ≤ W0 := Nat.pow_le_pow_right (by decide) (by decide)
    omega
  · refine W_mono (hs k e hi) ?_
    rintro ⟨z, e'⟩ ⟨h1, h2⟩
    cases z with
    | true =>
      show if true = true then _ else _
      rw [if_pos rfl]
      exact h1 rfl
    | false =>
      show if false = true then _ else _
      rw [if_neg (by simp)]
      exact h2 rfl
theorem ixm1 {n : Nat} (h : 0 < n) : ixP n (-1) = some (n - 1) := by
  unfold ixP
  rw [if_neg (by decide), if_pos (by omega)]
  congr 1
  omega
theorem idx_last {α : Type} [Inhabited α] {f : α → D} {l : List α} (h : 0 < l.length) : idxD (.vl (l.map f)) (-1) = some (f (gt l (l.length - 1))) := by
  rw [ix_v, List.length_map, ixm1 h, Option.bind_some, List.getElem?_map, gt_some (by omega)]; rfl
theorem idx_lastT {α : Type} [Inhabited α] {f : α → D} {l : List α} (h : 0 < l.length) : idxD (.tup (l.map f)) (-1) = some (f (gt l (l.length - 1))) := by
  rw [ix_t, List.length_map, ixm1 h, Option.bind_some, List.getElem?_map, gt_some (by omega)]; rfl
theorem setC_last {xs : List D} {env : Env} {i : Nat} {d : D} (h : 0 < xs.length) : setC (.cell xs) env i (-1) d = some (env.set i (.cell (xs.set (xs.length - 1) d))) := by
  unfold setC; dsimp only; rw [ixm1 h]; rfl
def popC (b : B) (env : Env) (i : Nat) (k : Int) : Option (RV × Env) := match b with
  | .cell xs => if rngOk k then (ixP xs.length k).bind fun j => (xs[j]?).map fun d => (.val d, env.set i (.cell (xs.eraseIdx j))) else none
  | _ => none
theorem popI_eq {env : Env} {i : Nat} {k : Int} : popI env i k = popC (get env i) env i k := rfl
theorem eraseIdx_map {α β : Type} {f : α → β} : ∀ {l : List α} {k : Nat}, (l.map f).eraseIdx k = (l.eraseIdx k).map f
  | [], _ => rfl
  | _ :: _, 0 => rfl
  | a :: l, k + 1 => by
    show f a :: (l.map f).eraseIdx k = f a :: (l.eraseIdx k).map f
    rw [eraseIdx_map]
theorem popC_ok {α : Type} [Inhabited α] {f : α → D} {l : List α} {env : Env} {i : Nat} {k : Int} (h0 : 0 ≤ k) (h : k < l.length) (hl : l.length ≤ 1000000000) : popC (.cell (l.map f)) env i k = some (.val (f (gt l k.toNat)), env.set i (.cell ((l.eraseIdx k.toNat).map f))) := by
  obtain ⟨j, rfl⟩ := Int.eq_ofNat_of_zero_le h0
  unfold popC
  dsimp only
  rw [if_pos (rngOk_of (by omega) (by omega)), List.length_map, ix_nat (by omega), Option.bind_some, List.getElem?_map, gt_some (by omega)]
  show some (RV.val (f (gt l j)), env.set i (.cell ((l.map f).eraseIdx j))) = some (RV.val (f (gt l (j : Int).toNat)), env.set i (.cell ((l.eraseIdx (j : Int).toNat).map f)))
  rw [Int.toNat_natCast, eraseIdx_map]
theorem tn2 {k : Nat} : ((k : Int) - 1).toNat = k - 1 := by omega
theorem iv2_i {a b : D} {i : Int} (h0 : 0 ≤ i) (h : i < 2) : idxD (.vl [a, b]) i = some (if i = 0 then a else b) := by
  have : i = 0 ∨ i = 1 := by omega
  rcases this with rfl | rfl <;> rfl
theorem iv3_i {a b c : D} {i : Int} (h0 : 0 ≤ i) (h : i < 3) : idxD (.vl [a, b, c]) i = some (if i = 0 then a else if i = 1 then b else c) := by
  have : i = 0 ∨ i = 1 ∨ i = 2 := by omega
  rcases this with rfl | rfl | rfl <;> rfl
theorem max_cons {α : Type} {l : List α} {g : α → Int} {a : Int} : bip .max1 [.vl (.int a :: l.map fun x => .int (g x))] = some (.val (.int (maxI a (l.map g)))) := by
  have : intsD (.int a :: l.map fun x => .int (g x)) = some (a :: l.map g) := by
    show (intsD (l.map fun x => .int (g x))).map (a :: ·) = _
    rw [ints_f]; rfl
  show Option.or ((((some _).bind intsD).bind tl1).map _) _ = _
  rw [Option.bind_some, this]; rfl
theorem min_cons {α : Type} {l : List α} {g : α → Int} {a : Int} : bip .min1 [.vl (.int a :: l.map fun x => .int (g x))] = some (.val (.int (minI a (l.map g)))) := by
  have : intsD (.int a :: l.map fun x => .int (g x)) = some (a :: l.map g) := by
    show (intsD (l.map fun x => .int (g x))).map (a :: ·) = _
    rw [ints_f]; rfl
  show Option.or ((((some _).bind intsD).bind tl1).map _) _ = _
  rw [Option.bind_some, this]; rfl
theorem maxI_snoc {m x : Int} {l : List Int} : maxI m (l ++ [x]) = max (maxI m l) x := by
  unfold maxI; rw [List.foldl_append]; rfl
theorem maxI_ge {l : List Int} : ∀ {m : Int}, m ≤ maxI m l ∧ ∀ x ∈ l, x ≤ maxI m l := by
  unfold maxI
  induction l with
  | nil => intro m; exact ⟨Int.le_refl _, fun x h => by cases h⟩
  | cons a l ih =>
    intro m
    rw [List.foldl_cons]
    obtain ⟨h1, h2⟩ := ih (m := max m a)
    refine ⟨by omega, fun x hx => ?_⟩
    rcases List.mem_cons.mp hx with rfl | hx
    · omega
    · exact h2 x hx
theorem maxI_mem {l : List Int} : ∀ {m : Int}, maxI m l = m ∨ maxI m l ∈ l := by
  unfold maxI
  induction l with
  | nil => intro m; exact .inl rfl
  | cons a l ih =>
    intro m
    rw [List.foldl_cons]
    rcases ih (m := max m a) with h | h
    · rw [h]
      rcases Int.le_total m a with h' | h'
      · right; rw [Int.max_eq_right h']; exact List.mem_cons_self ..
      · left; exact Int.max_eq_left h'
    · exact .inr (List.mem_cons_of_mem _ h)
end PL

/-! Plain laws: fractions as rational numbers. -/
namespace PL
open Mini
local macro_rules | `(tactic| wtm_at "w") => `(tactic| simp (disch := (first | omega | assumption | (refine tv_nn ?_; omega) | (refine tv_lt ?_; omega) | (refine tv_na ?_ ?_ <;> omega) | (simp only [List.length_map, List.length_range, List.length_cons, List.length_nil, List.length_append, List.length_set, List.length_reverse, List.length_take, List.length_drop]; omega))) only [true_implies, false_implies, implies_true, not_true_eq_false, ne_eq, Int.reduceEq, Int.reduceNeg, Int.reduceToNat, reduceCtorEq, Bool.not_true, Bool.not_false, Classical.not_not, Int.toNat_natCast, MS.rngList_len, Nat.zero_le, List.contains_nil, Bool.and_true, Bool.true_and, Bool.and_false, Bool.false_and, List.map_nil, List.append_nil, Nat.reduceLT, Nat.reduceLeDiff, Int.reduceLT, Int.reduceLE, Nat.reduceMul, Int.reduceMul, Int.reduceAdd, Int.reduceSub, List.length_cons, List.length_nil, Nat.reduceAdd, Nat.reduceSub, Nat.zero_add, List.getElem?_cons_zero, List.getElem?_cons_succ, List.contains_cons, Nat.reduceBEq, Bool.or_false, Bool.or_true, Bool.false_or, outB_0, outB_1, outB_2, outB_3, outB_4, outB_5, outB_6, outB_7, outB_8, eq_ss, eq_nn, X_non, X_bl, T_bl, X_int, X_str, X_var, T_var, X_gl, X_tup, X_lst, X_bin, X_neg, X_cmp, T_cmp, X_chain, T_chain, X_isN', T_isN, isNon_non, isNon_int, isNon_tup, isNon_str, isNon_bl, eqt, eqf, X_isB, T_isB, X_ite, X_idx, T_idx, X_slT, X_slF, X_slB, X_rev, X_call, T_call, X_bi, T_bi, X_pop, X_popAt, X_mt, T_mt, X_rng, T_bin, X_not, T_not, X_and, T_and, X_or, T_or, V_nil, V_cons, R_nil, R_cons, AV_nil, AV_cons, OV_nil, OV_cons, A_nil, A_cons, O_nil, O_cons, S_asg, S_asgT, S_par, S_setI, S_aug, S_app, S_revI, S_expr, S_ret, S_retN, S_ite, S_for, S_while, S_brk, S_pass, S_kill, W_some, W_none, W_bind, W_map, W_ite, get0, getS, List.set_cons_zero, List.set_cons_succ, fin_f, fin_t, tst_eq, blR_bl, pk_val, pk_own, pk_ref, fz_val, fz_own, fz_ref, bindR_val, bindR_own, bindR_ref, intD_int, tru_bl, tru_int, tru_vl, tru_tup, tru_fl, tru_non, pks, bindT, setAll, bindRs, unref, wipe, unlock, itR, callB, refs, argB, argB1, backB, back1, noRef, augC, add_i, sub_i, badd_i, badd_t, bsub_i, c_eq, c_ne, c_lt, c_le, c_gt, c_ge, c_in_t, c_in_l, c_nin_t, c_nin_l, dok_l, dok_r, dep_int, dep_bl, dep_non, dep_str, eq_ii, eq_bb, b_len_t, b_len_v, b_len_f, b_tup_t, b_tup_v, b_tup_f, b_lst_t, b_lst_v, b_lst_f, b_min2, b_max2, b_abs, b_int_i, b_int_b, b_isB, b_isI, b_isS, b_isT, b_sum_v, b_sum_t, b_any_v, b_all_v, popL, outR_val, outR_own, outR_ref, List.nodup_nil, List.nodup_cons, List.not_mem_nil, not_false_eq_true, and_self, if_true, Bool.false_eq_true, if_false, List.mem_cons, or_false, true_and, and_true, decide_eq_true_eq, beq_iff_eq, Option.map_some, Option.bind_some, List.length_map, List.nil_append, List.cons_append, List.replicate, X_compR, X_compIfR, lim_ok, lim_filter, r1', r2', mul_i, bmul_i, fdiv_i, bfdiv_i, pow_i, mulOk_l, mulOk_r, divOk_of, powOk_of, modS, add_tS, add_lS, mul_lS, iT, iV, iTi, iVi, it0, it1, it2, it3, it4, iv0, iv1, iv2, iv3, iv_p, it_p, iv2_i, iv3_i, max_cons, min_cons, idx_last, idx_lastT, setC_last, popI_eq, popC_ok, beq_self_eq_true, bne_self_eq_false, Int.reduceBEq, Int.reduceBNe, idx_hd, dok_ints, isin_nat, isin_int, ite_ints, appL_eq, appC_ok, setL_eq, setC_ok, setC_i, slT_t, slF_t, slT_v, slF_v, r3', tn1, tn2, ← List.map_take, ← List.map_drop, ints_f, sum_v, sum_t, any_v, all_v, if_and, if_or, Int.cast_ofNat_Int, Int.zero_add, Int.add_zero, Bool.and_eq_true, Bool.or_eq_true, Bool.not_eq_true, Bool.not_eq_eq_eq_not, decide_eq_false_iff_not, decide_true, decide_false, List.length_range, Bool.decide_eq_true, List.isEmpty_cons])
local macro_rules | `(tactic| wtm_at "wx") => `(tactic| simp (disch := (first | omega | assumption | (refine tv_nn ?_; omega) | (refine tv_lt ?_; omega) | (refine tv_na ?_ ?_ <;> omega) | (simp only [List.length_map, List.length_range, List.length_cons, List.length_nil, List.length_append, List.length_set, List.length_reverse, List.length_take, List.length_drop]; omega))) only [*, true_implies, false_implies, implies_true, not_true_eq_false, ne_eq, Int.reduceEq, Int.reduceNeg, Int.reduceToNat, reduceCtorEq, Bool.not_true, Bool.not_false, Classical.not_not, Int.toNat_natCast, MS.rngList_len, Nat.zero_le, List.contains_nil, Bool.and_true, Bool.true_and, Bool.and_false, Bool.false_and, List.map_nil, List.append_nil, Nat.reduceLT, Nat.reduceLeDiff, Int.reduceLT, Int.reduceLE, Nat.reduceMul, Int.reduceMul, Int.reduceAdd, Int.reduceSub, List.length_cons, List.length_nil, Nat.reduceAdd, Nat.reduceSub, Nat.zero_add, List.getElem?_cons_zero, List.getElem?_cons_succ, List.contains_cons, Nat.reduceBEq, Bool.or_false, Bool.or_true, Bool.false_or, outB_0, outB_1, outB_2, outB_3, outB_4, outB_5, outB_6, outB_7, outB_8, eq_ss, eq_nn, X_non, X_bl, T_bl, X_int, X_str, X_var, T_var, X_gl, X_tup, X_lst, X_bin, X_neg, X_cmp, T_cmp, X_chain, T_chain, X_isN', T_isN, isNon_non, isNon_int, isNon_tup, isNon_str, isNon_bl, eqt, eqf, X_isB, T_isB, X_ite, X_idx, T_idx, X_slT, X_slF, X_slB, X_rev, X_call, T_call, X_bi, T_bi, X_pop, X_popAt, X_mt, T_mt, X_rng, T_bin, X_not, T_not, X_and, T_and, X_or, T_or, V_nil, V_cons, R_nil, R_cons, AV_nil, AV_cons, OV_nil, OV_cons, A_nil, A_cons, O_nil, O_cons, S_asg, S_asgT, S_par, S_setI, S_aug, S_app, S_revI, S_expr, S_ret, S_retN, S_ite, S_for, S_while, S_brk, S_pass, S_kill, W_some, W_none, W_bind, W_map, W_ite, get0, getS, List.set_cons_zero, List.set_cons_succ, fin_f, fin_t, tst_eq, blR_bl, pk_val, pk_own, pk_ref, fz_val, fz_own, fz_ref, bindR_val, bindR_own, bindR_ref, intD_int, tru_bl, tru_int, tru_vl, tru_tup, tru_fl, tru_non, pks, bindT, setAll, bindRs, unref, wipe, unlock, itR, callB, refs, argB, argB1, backB, back1, noRef, augC, add_i, sub_i, badd_i, badd_t, bsub_i, c_eq, c_ne, c_lt, c_le, c_gt, c_ge, c_in_t, c_in_l, c_nin_t, c_nin_l, dok_l, dok_r, dep_int, dep_bl, dep_non, dep_str, eq_ii, eq_bb, b_len_t, b_len_v, b_len_f, b_tup_t, b_tup_v, b_tup_f, b_lst_t, b_lst_v, b_lst_f, b_min2, b_max2, b_abs, b_int_i, b_int_b, b_isB, b_isI, b_isS, b_isT, b_sum_v, b_sum_t, b_any_v, b_all_v, popL, outR_val, outR_own, outR_ref, List.nodup_nil, List.nodup_cons, List.not_mem_nil, not_false_eq_true, and_self, if_true, Bool.false_eq_true, if_false, List.mem_cons, or_false, true_and, and_true, decide_eq_true_eq, beq_iff_eq, Option.map_some, Option.bind_some, List.length_map, List.nil_append, List.cons_append, List.replicate, X_compR, X_compIfR, lim_ok, lim_filter, r1', r2', mul_i, bmul_i, fdiv_i, bfdiv_i, pow_i, mulOk_l, mulOk_r, divOk_of, powOk_of, modS, add_tS, add_lS, mul_lS, iT, iV, iTi, iVi, it0, it1, it2, it3, it4, iv0, iv1, iv2, iv3, iv_p, it_p, iv2_i, iv3_i, max_cons, min_cons, idx_last, idx_lastT, setC_last, popI_eq, popC_ok, beq_self_eq_true, bne_self_eq_false, Int.reduceBEq, Int.reduceBNe, idx_hd, dok_ints, isin_nat, isin_int, ite_ints, appL_eq, appC_ok, setL_eq, setC_ok, setC_i, slT_t, slF_t, slT_v, slF_v, r3', tn1, tn2, ← List.map_take, ← List.map_drop, ints_f, sum_v, sum_t, any_v, all_v, if_and, if_or, Int.cast_ofNat_Int, Int.zero_add, Int.add_zero, Bool.and_eq_true, Bool.or_eq_true, Bool.not_eq_true, Bool.not_eq_eq_eq_not, decide_eq_false_iff_not, decide_true, decide_false, List.length_range, Bool.decide_eq_true, List.isEmpty_cons])
local macro_rules | `(tactic| wtm_at "s1") => `(tactic| (first | refine W_st ?_ | refine W_sn ?_) <;> (try wtm_at "wx"))
local macro_rules | `(tactic| wtm_at "go") => `(tactic| ((try simp only [bindT, setAll, Option.bind_some, List.set_cons_zero, List.set_cons_succ]); (first | (wtm_at "s1") | (wtm_at "wx")); repeat (wtm_at "s1")))
local macro_rules | `(tactic| wtm_at "s1") => `(tactic| first | (refine W_sK fun _ _ => ?_; try wtm_at "wx") | (refine W_sn ?_; try wtm_at "wx") | (refine KK.nx (by assumption) ?_; try wtm_at "wx") | (refine KK.rt (by assumption) ?_; try wtm_at "wx") | (refine KK.bk (by assumption) ?_; try wtm_at "wx"))
local macro_rules | `(tactic| wtm_at "go") => `(tactic| ((try simp only [bindT, setAll, Option.bind_some, List.set_cons_zero, List.set_cons_succ]); (first | (wtm_at "s1") | (wtm_at "wx")); repeat (wtm_at "s1")))
local macro_rules | `(tactic| wtm_at "ws") => `(tactic| ((wtm_at "s1"); repeat (wtm_at "s1")))

def encQ (q : Rat) : D := .tup [.int q.num, .int q.den]
theorem encQ_eq {q : Rat} : encQ q = .tup [.int q.num, .int q.den] := rfl
theorem idxQ0 {q : Rat} : idxD (encQ q) 0 = some (.int q.num) := it0
theorem idxQ1 {q : Rat} : idxD (encQ q) 1 = some (.int q.den) := it1
theorem pairQ1 {a : Int} : D.tup [.int a, .int 1] = encQ (a : Rat) := by
  unfold encQ
  rw [Rat.num_intCast, Rat.den_intCast]; rfl
theorem encQ_inj {p q : Rat} : encQ p = encQ q ↔ p = q := by
  constructor
  · intro h
    unfold encQ at h
    injection h with h
    injection h with h1 h2
    injection h1 with h1
    injection h2 with h2
    injection h2 with h2
    exact Rat.ext h1 (by exact_mod_cast h2)
  · rintro rfl; rfl
theorem Fl_Q {k : Nat} {q : Rat} : Fl (k + 2) (encQ q) := Fl_tup (fun x hx => by
  simp only [List.mem_cons, List.not_mem_nil, or_false] at hx
  rcases hx with rfl | rfl <;> exact Fl_int) (by simp)
theorem dok_Q {q : Rat} {n : Nat} : dok (depD (encQ q)) n = true := dok_Fl (k := 2) Fl_Q (by decide)
theorem eq_Q {p q : Rat} : eqD (encQ p) (encQ q) = decide (p = q) := by
  unfold encQ
  simp only [eqD, eqDs, Bool.and_true]
  rw [Bool.eq_iff_iff]
  simp only [Bool.and_eq_true, beq_iff_eq, decide_eq_true_eq]
  exact ⟨fun ⟨a, b⟩ => Rat.ext a (by exact_mod_cast b), fun h => by subst h; exact ⟨rfl, rfl⟩⟩
theorem isNon_Q {q : Rat} : isNonD (encQ q) = false := rfl
theorem bindT_Q {env : Env} {i j : Nat} {q : Rat} : bindT env (.tp [i, j]) (encQ q) = some ((env.set i (.val (.int q.num))).set j (.val (.int q.den))) := rfl
theorem isT_Q {q : Rat} : bip .isTuple [encQ q] = some (.val (.bl true)) := rfl
theorem len_Q {q : Rat} : bip .len [encQ q] = some (.val (.int 2)) := rfl
/-! ### sizes -/
def Sz (b : Nat) (q : Rat) : Prop := q.num.natAbs < 2 ^ b ∧ q.den < 2 ^ b
theorem p2_le {a b : Nat} (h : a ≤ b) : (2 : Nat) ^ a ≤ 2 ^ b := Nat.pow_le_pow_right (by decide) h
theorem Sz.mono {a b : Nat} {q : Rat} (h : Sz a q) (hab : a ≤ b) : Sz b q := by
  have := p2_le hab
  exact ⟨Nat.lt_of_lt_of_le h.1 this, Nat.lt_of_lt_of_le h.2 this⟩
theorem divInt_le {n d : Int} (hd : d ≠ 0) : (Rat.divInt n d).num.natAbs ≤ n.natAbs ∧ (Rat.divInt n d).den ≤ d.natAbs := by
  constructor
  · rw [Rat.num_divInt]
    refine Nat.le_trans (Int.natAbs_ediv_le_natAbs _ _) ?_
    rw [Int.natAbs_mul]
    have : d.sign.natAbs ≤ 1 := by
      rcases Int.lt_trichotomy d 0 with h | h | h
      · rw [Int.sign_eq_neg_one_of_neg h]; decide
      · exact absurd h hd
      · rw [Int.sign_eq_one_of_pos h]; decide
    calc d.sign.natAbs * n.natAbs ≤ 1 * n.natAbs := Nat.mul_le_mul_right _ this
      _ = n.natAbs := Nat.one_mul _
  · rw [Rat.den_divInt, if_neg hd]
    exact Nat.div_le_self _ _
theorem Sz_divInt {b : Nat} {n d : Int} (hd : d ≠ 0) (h1 : n.natAbs < 2 ^ b) (h2 : d.natAbs < 2 ^ b) : Sz b (Rat.divInt n d) := by
  obtain ⟨a, c⟩ := divInt_le (n := n) hd
  exact ⟨by omega, by omega⟩
theorem Sz_int {b : Nat} {n : Int} (hb : 1 ≤ b) (h1 : n.natAbs < 2 ^ b) : Sz b (n : Rat) := by
  refine ⟨by rw [Rat.num_intCast]; exact h1, ?_⟩
  rw [Rat.den_intCast]
  have := p2_le hb
  omega
theorem Sz0 {b : Nat} (hb : 1 ≤ b) : Sz b 0 := by
  have := p2_le hb
  have e1 : (0 : Rat).num = 0 := rfl
  have e2 : (0 : Rat).den = 1 := rfl
  unfold Sz
  rw [e1, e2]
  exact ⟨by simp only [Int.natAbs_zero]; omega, by omega⟩
theorem mul_p2 {x y a b : Nat} (h1 : x < 2 ^ a) (h2 : y < 2 ^ b) : x * y < 2 ^ (a + b) := by
  rw [Nat.pow_add]
  exact Nat.mul_lt_mul'' h1 h2
theorem den_ne (q : Rat) : (q.den : Int) ≠ 0 := by have := q.den_nz; omega
theorem add_eq (p q : Rat) : p + q = Rat.divInt (p.num * q.den + q.num * p.den) (p.den * q.den) := by
  conv => lhs; rw [← Rat.num_divInt_den p, ← Rat.num_divInt_den q]
  rw [Rat.divInt_add_divInt _ _ (den_ne p) (den_ne q)]
theorem sub_eq (p q : Rat) : p - q = Rat.divInt (p.num * q.den - q.num * p.den) (p.den * q.den) := by
  conv => lhs; rw [← Rat.num_divInt_den p, ← Rat.num_divInt_den q]
  rw [Rat.divInt_sub_divInt _ _ (den_ne p) (den_ne q)]
theorem mul_eq (p q : Rat) : p * q = Rat.divInt (p.num * q.num) (p.den * q.den) := by
  conv => lhs; rw [← Rat.num_divInt_den p, ← Rat.num_divInt_den q]
  rw [Rat.divInt_mul_divInt]
theorem div_eq (p q : Rat) : p / q = Rat.divInt (p.num * q.den) (p.den * q.num) := by
  conv => lhs; rw [← Rat.num_divInt_den p, ← Rat.num_divInt_den q, Rat.div_def, Rat.inv_divInt]
  rw [Rat.divInt_mul_divInt]
theorem den_ne2 (p q : Rat) : (p.den : Int) * q.den ≠ 0 := Int.mul_ne_zero (den_ne p) (den_ne q)
theorem Sz_add {a b : Nat} {p q : Rat} (hp : Sz a p) (hq : Sz b q) : Sz (a + b + 1) (p + q) := by
  rw [add_eq]
  have e : (2 : Nat) ^ (a + b + 1) = 2 ^ (a + b) * 2 := Nat.pow_succ ..
  refine Sz_divInt (den_ne2 p q) ?_ ?_
  · have h1 := mul_p2 hp.1 hq.2
    have h2 := mul_p2 hq.1 hp.2
    rw [Nat.add_comm b a] at h2
    have h3 := Int.natAbs_add_le (p.num * q.den) (q.num * p.den)
    rw [Int.natAbs_mul, Int.natAbs_mul, Int.natAbs_natCast, Int.natAbs_natCast] at h3
    omega
  · have h1 := mul_p2 hp.2 hq.2
    rw [Int.natAbs_mul, Int.natAbs_natCast, Int.natAbs_natCast]
    omega
theorem Sz_sub {a b : Nat} {p q : Rat} (hp : Sz a p) (hq : Sz b q) : Sz (a + b + 1) (p - q) := by
  rw [sub_eq]
  have e : (2 : Nat) ^ (a + b + 1) = 2 ^ (a + b) * 2 := Nat.pow_succ ..
  refine Sz_divInt (den_ne2 p q) ?_ ?_
  · have h1 := mul_p2 hp.1 hq.2
    have h2 := mul_p2 hq.1 hp.2
    rw [Nat.add_comm b a] at h2
    have h3 := Int.natAbs_sub_le (p.num * q.den) (q.num * p.den)
    rw [Int.natAbs_mul, Int.natAbs_mul, Int.natAbs_natCast, Int.natAbs_natCast] at h3
    omega
  · have h1 := mul_p2 hp.2 hq.2
    rw [Int.natAbs_mul, Int.natAbs_natCast, Int.natAbs_natCast]
    omega
theorem Sz_mul {a b : Nat} {p q : Rat} (hp : Sz a p) (hq : Sz b q) : Sz (a + b) (p * q) := by
  rw [mul_eq]
  refine Sz_divInt (den_ne2 p q) ?_ ?_
  · have h1 := mul_p2 hp.1 hq.1
    rw [Int.natAbs_mul]; exact h1
  · have h1 := mul_p2 hp.2 hq.2
    rw [Int.natAbs_mul, Int.natAbs_natCast, Int.natAbs_natCast]; exact h1
theorem num_posQ {q : Rat} (h : 0 < q) : 0 < q.num := by
  have := (Rat.lt_iff 0 q).mp h
  have e1 : (0 : Rat).num = 0 := rfl
  have e2 : (0 : Rat).den = 1 := rfl
  rw [e1, e2] at this
  omega
theorem num_ne {q : Rat} (h : q ≠ 0) : q.num ≠ 0 := fun e => h (Rat.num_eq_zero.mp e)
theorem Sz_div {a b : Nat} {p q : Rat} (hp : Sz a p) (hq : Sz b q) (h0 : q ≠ 0) : Sz (a + b) (p / q) := by
  rw [div_eq]
  refine Sz_divInt (Int.mul_ne_zero (den_ne p) (num_ne h0)) ?_ ?_
  · have h1 := mul_p2 hp.1 hq.2
    rw [Int.natAbs_mul, Int.natAbs_natCast]; exact h1
  · have h1 := mul_p2 hp.2 hq.1
    rw [Int.natAbs_mul, Int.natAbs_natCast]; exact h1
/-! ### the defs of fractions -/
theorem gcd_dvd_le {n d : Int} (hd : d ≠ 0) : Int.gcd n d ≠ 0 ∧ Int.gcd n d ≤ d.natAbs := by
  constructor
  · intro h; exact hd (Int.gcd_eq_zero_iff.mp h).2
  · exact Nat.le_of_dvd (by omega) (Int.gcd_dvd_natAbs_right n d)
theorem frQ (n d : Int) (hd : d ≠ 0) : (Rat.divInt n d).num = n.fdiv (if d < 0 then -(Int.gcd n d : Int) else Int.gcd n d) ∧ ((Rat.divInt n d).den : Int) = d.fdiv (if d < 0 then -(Int.gcd n d : Int) else Int.gcd n d) := by
  have g1 : (Int.gcd n d : Int) ∣ n := Int.gcd_dvd_left ..
  have g2 : (Int.gcd n d : Int) ∣ d := Int.gcd_dvd_right ..
  obtain ⟨g3, _⟩ := gcd_dvd_le (n := n) hd
  rw [Rat.num_divInt, Rat.den_divInt, if_neg hd, Int.gcd_comm d n]
  generalize Int.gcd n d = g at *
  obtain ⟨a, rfl⟩ := g1
  obtain ⟨b, hb⟩ := g2
  have gz : (g : Int) ≠ 0 := by omega
  have hbz : b ≠ 0 := by rintro rfl; simp at hb; exact hd hb
  by_cases h : d < 0
  · rw [if_pos h, Int.sign_eq_neg_one_of_neg h]
    constructor
    · rw [show (-1 : Int) * (g * a) = g * (-a) by rw [Int.mul_neg, Int.neg_mul, Int.one_mul], Int.mul_ediv_cancel_left _ gz]
      rw [show (g : Int) * a = (-g) * (-a) by rw [Int.neg_mul_neg], Int.mul_fdiv_cancel_left _ (by omega)]
    · rw [hb, show (g : Int) * b = (-g) * (-b) by rw [Int.neg_mul_neg], Int.mul_fdiv_cancel_left _ (by omega), Int.natAbs_mul]
      have : b < 0 := by
        rcases Int.lt_trichotomy b 0 with h' | h' | h'
        · exact h'
        · exact absurd h' hbz
        · have : 0 < (g : Int) * b := Int.mul_pos (by omega) h'
          omega
      rw [Int.natAbs_neg, Int.natAbs_natCast, Nat.mul_div_cancel_left _ (by omega)]
      omega
  · have hp : 0 < d := by omega
    rw [if_neg h, Int.sign_eq_one_of_pos hp]
    constructor
    · rw [Int.one_mul, Int.mul_ediv_cancel_left _ gz, Int.mul_fdiv_cancel_left _ gz]
    · rw [hb, Int.mul_fdiv_cancel_left _ gz, Int.natAbs_mul, Int.natAbs_natCast, Nat.mul_div_cancel_left _ (by omega)]
      have : 0 < b := by
        rcases Int.lt_trichotomy b 0 with h' | h' | h'
        · have : (g : Int) * b < 0 := Int.mul_neg_of_pos_of_neg (by omega) h'
          omega
        · exact absurd h' hbz
        · exact h'
      omega
theorem b_gcd {a b : Int} : bip .gcd [.int a, .int b] = some (.val (.int (Int.gcd a b))) := rfl
def f_fraction : Fn := ⟨2, 3, [],
(.cons (.asg 2 (.bi .gcd (.cons (.var 0) (.cons (.var 1) .nil))))
(.cons (.ite (.cmp .lt (.var 1) (.int 0))
(.cons (.asg 2 (.neg (.var 2)))
.nil)
.nil)
(.cons (.ret (.tup (.cons (.bin .fdiv (.var 0) (.var 2)) (.cons (.bin .fdiv (.var 1) (.var 2)) .nil))))
.nil)))⟩
theorem fraction_ok {G : List D} {P : List Fn} {f : Nat} (h : P[f]? = some f_fraction) (n : Nat) (a d : Int) (hd : d ≠ 0) (hs : d.natAbs < 2 ^ 9000) :
    callF G P (n + 1) f [.val (.int a), .val (.int d)] = some (.val (encQ (Rat.divInt a d)), [.val (.int a), .val (.int d)]) := by
  rw [callF_succ h]; refine W.get (run_ok rfl rfl ?_)
  obtain ⟨q1, q2⟩ := frQ a d hd
  obtain ⟨g1, g2⟩ := gcd_dvd_le (n := a) hd
  have bg := @b_gcd
  unfold encQ
  rw [q1, q2]
  clear q1 q2
  have d1 : divOk (Int.gcd a d) = true := by
    unfold divOk
    rw [decide_eq_true (show (Int.gcd a d : Int) ≠ 0 by omega), decide_eq_true (show (Int.gcd a d : Int).natAbs < 2 ^ 9000 by rw [Int.natAbs_natCast]; exact Nat.lt_of_le_of_lt g2 hs)]; rfl
  have d2 : divOk (-(Int.gcd a d : Int)) = true := by
    unfold divOk
    rw [decide_eq_true (show -(Int.gcd a d : Int) ≠ 0 by omega), decide_eq_true (show (-(Int.gcd a d : Int)).natAbs < 2 ^ 9000 by rw [Int.natAbs_neg, Int.natAbs_natCast]; exact Nat.lt_of_le_of_lt g2 hs)]; rfl
  clear g1 g2 hs hd
  by_cases hn : d < 0
  · wtm_at "go"
  · wtm_at "go"
theorem mulOk_p {a b : Nat} {i j : Int} (h1 : i.natAbs < 2 ^ a) (h2 : j.natAbs < 2 ^ b) (ha : a ≤ 1000000) (hb : b ≤ 1000000) : mulOk i j = true :=
  mulB (Nat.lt_of_lt_of_le h1 (p2_le ha)) (Nat.lt_of_lt_of_le h2 (p2_le hb))
def f_plusF (f : Nat) : Fn := ⟨2, 2, [],
(.cons (.ret (.call f (.cons (.bin .add (.bin .mul (.idx (.var 0) (.int 0)) (.idx (.var 1) (.int 1))) (.bin .mul (.idx (.var 1) (.int 0)) (.idx (.var 0) (.int 1)))) (.cons (.bin .mul (.idx (.var 0) (.int 1)) (.idx (.var 1) (.int 1))) .nil))))
.nil)⟩
def f_minusF (f : Nat) : Fn := ⟨2, 2, [],
(.cons (.ret (.call f (.cons (.bin .sub (.bin .mul (.idx (.var 0) (.int 0)) (.idx (.var 1) (.int 1))) (.bin .mul (.idx (.var 1) (.int 0)) (.idx (.var 0) (.int 1)))) (.cons (.bin .mul (.idx (.var 0) (.int 1)) (.idx (.var 1) (.int 1))) .nil))))
.nil)⟩
def f_timesF (f : Nat) : Fn := ⟨2, 2, [],
(.cons (.ret (.call f (.cons (.bin .mul (.idx (.var 0) (.int 0)) (.idx (.var 1) (.int 0))) (.cons (.bin .mul (.idx (.var 0) (.int 1)) (.idx (.var 1) (.int 1))) .nil))))
.nil)⟩
def f_divF (f : Nat) : Fn := ⟨2, 2, [],
(.cons (.ret (.call f (.cons (.bin .mul (.idx (.var 0) (.int 0)) (.idx (.var 1) (.int 1))) (.cons (.bin .mul (.idx (.var 0) (.int 1)) (.idx (.var 1) (.int 0))) .nil))))
.nil)⟩
def f_lessQ : Fn := ⟨2, 2, [],
(.cons (.ret (.cmp .lt (.bin .mul (.idx (.var 0) (.int 0)) (.idx (.var 1) (.int 1))) (.bin .mul (.idx (.var 1) (.int 0)) (.idx (.var 0) (.int 1)))))
.nil)⟩
/-- a def that makes a fraction of two ints -/
def Makes (G : List D) (P : List Fn) (f k : Nat) : Prop := ∀ (n : Nat) (a d : Int), d ≠ 0 → d.natAbs < 2 ^ 8000 → (0 < d ∨ k = 0) → a.natAbs < 2 ^ 9000 → ∃ bs, callF G P (n + 4) f [.val (.int a), .val (.int d)] = some (.val (encQ (Rat.divInt a d)), bs) ∧ bs.length = 2
theorem sm9 {x : Nat} (h : x < 2 ^ 64) : x < 2 ^ 9000 := Nat.lt_of_lt_of_le h (p2_le (Nat.le_of_ble_eq_true rfl))
theorem Makes.frac {G : List D} {P : List Fn} {f : Nat} (h : P[f]? = some f_fraction) : Makes G P f 0 := fun n a d hd hs _ _ => ⟨_, fraction_ok h (n + 3) a d hd (Nat.lt_of_lt_of_le hs (p2_le (by decide))), rfl⟩
section
variable {G : List D} {P : List Fn} {f g k : Nat}
theorem bs2 {bs : List B} (h : bs.length = 2) : ∃ x y, bs = [x, y] := by
  match bs, h with
  | [x, y], _ => exact ⟨x, y, rfl⟩
theorem plus_ok (hf : Makes G P f k) (h : P[g]? = some (f_plusF f)) (n : Nat) (p q : Rat) (hp : Sz 4000 p) (hq : Sz 4000 q) : callF G P (n + 5) g [.val (encQ p), .val (encQ q)] = some (.val (encQ (p + q)), [.val (encQ p), .val (encQ q)]) := by
  rw [callF_succ h]; refine W.get (run_ok rfl rfl ?_)
  have m1 : mulOk p.num q.den = true := mulOk_p hp.1 hq.2 (by decide) (by decide)
  have m2 : mulOk q.num p.den = true := mulOk_p hq.1 hp.2 (by decide) (by decide)
  have m3 : mulOk p.den q.den = true := mulOk_p hp.2 hq.2 (by decide) (by decide)
  have d0 : (0 : Int) < p.den * q.den := Int.mul_pos (by have := p.den_nz; omega) (by have := q.den_nz; omega)
  have d1 : ((p.den : Int) * q.den).natAbs < 2 ^ 8000 := by rw [Int.natAbs_mul]; exact mul_p2 hp.2 hq.2
  have d2 : (p.num * q.den + q.num * p.den).natAbs < 2 ^ 9000 := by
    have h1 := mul_p2 hp.1 hq.2
    have h2 := mul_p2 hq.1 hp.2
    have h3 := Int.natAbs_add_le (p.num * q.den) (q.num * p.den)
    rw [Int.natAbs_mul, Int.natAbs_mul, Int.natAbs_natCast, Int.natAbs_natCast] at h3
    have e : (2 : Nat) ^ (4000 + 4000) * 2 ≤ 2 ^ 9000 := by rw [← Nat.pow_succ]; exact p2_le (by decide)
    omega
  obtain ⟨bs, c, hb⟩ := hf n _ _ (by omega) d1 (.inl d0) d2
  obtain ⟨x, y, rfl⟩ := bs2 hb
  rw [add_eq]
  clear d0 d1 d2 hb
  have i0 := @idxQ0
  have i1 := @idxQ1
  wtm_at "go"
theorem minus_ok (hf : Makes G P f k) (h : P[g]? = some (f_minusF f)) (n : Nat) (p q : Rat) (hp : Sz 4000 p) (hq : Sz 4000 q) : callF G P (n + 5) g [.val (encQ p), .val (encQ q)] = some (.val (encQ (p - q)), [.val (encQ p), .val (encQ q)]) := by
  rw [callF_succ h]; refine W.get (run_ok rfl rfl ?_)
  have m1 : mulOk p.num q.den = true := mulOk_p hp.1 hq.2 (by decide) (by decide)
  have m2 : mulOk q.num p.den = true := mulOk_p hq.1 hp.2 (by decide) (by decide)
  have m3 : mulOk p.den q.den = true := mulOk_p hp.2 hq.2 (by decide) (by decide)
  have d0 : (0 : Int) < p.den * q.den := Int.mul_pos (by have := p.den_nz; omega) (by have := q.den_nz; omega)
  have d1 : ((p.den : Int) * q.den).natAbs < 2 ^ 8000 := by rw [Int.natAbs_mul]; exact mul_p2 hp.2 hq.2
  have d2 : (p.num * q.den - q.num * p.den).natAbs < 2 ^ 9000 := by
    have h1 := mul_p2 hp.1 hq.2
    have h2 := mul_p2 hq.1 hp.2
    have h3 := Int.natAbs_sub_le (p.num * q.den) (q.num * p.den)
    rw [Int.natAbs_mul, Int.natAbs_mul, Int.natAbs_natCast, Int.natAbs_natCast] at h3
    have e : (2 : Nat) ^ (4000 + 4000) * 2 ≤ 2 ^ 9000 := by rw [← Nat.pow_succ]; exact p2_le (by decide)
    omega
  obtain ⟨bs, c, hb⟩ := hf n _ _ (by omega) d1 (.inl d0) d2
  obtain ⟨x, y, rfl⟩ := bs2 hb
  rw [sub_eq]
  clear d0 d1 d2 hb
  have i0 := @idxQ0
  have i1 := @idxQ1
  wtm_at "go"
theorem times_ok (hf : Makes G P f k) (h : P[g]? = some (f_timesF f)) (n : Nat) (p q : Rat) (hp : Sz 4000 p) (hq : Sz 4000 q) : callF G P (n + 5) g [.val (encQ p), .val (encQ q)] = some (.val (encQ (p * q)), [.val (encQ p), .val (encQ q)]) := by
  rw [callF_succ h]; refine W.get (run_ok rfl rfl ?_)
  have m1 : mulOk p.num q.num = true := mulOk_p hp.1 hq.1 (by decide) (by decide)
  have m3 : mulOk p.den q.den = true := mulOk_p hp.2 hq.2 (by decide) (by decide)
  have d0 : (0 : Int) < p.den * q.den := Int.mul_pos (by have := p.den_nz; omega) (by have := q.den_nz; omega)
  have d1 : ((p.den : Int) * q.den).natAbs < 2 ^ 8000 := by rw [Int.natAbs_mul]; exact mul_p2 hp.2 hq.2
  have d2 : (p.num * q.num).natAbs < 2 ^ 9000 := by
    have h1 := mul_p2 hp.1 hq.1
    rw [Int.natAbs_mul]
    exact Nat.lt_of_lt_of_le h1 (p2_le (by decide))
  obtain ⟨bs, c, hb⟩ := hf n _ _ (by omega) d1 (.inl d0) d2
  obtain ⟨x, y, rfl⟩ := bs2 hb
  rw [mul_eq]
  clear d0 d1 d2 hb
  have i0 := @idxQ0
  have i1 := @idxQ1
  wtm_at "go"
theorem div_ok (hf : Makes G P f k) (h : P[g]? = some (f_divF f)) (n : Nat) (p q : Rat) (hp : Sz 4000 p) (hq : Sz 4000 q) (h0 : 0 < q ∨ (k = 0 ∧ q ≠ 0)) : callF G P (n + 5) g [.val (encQ p), .val (encQ q)] = some (.val (encQ (p / q)), [.val (encQ p), .val (encQ q)]) := by
  rw [callF_succ h]; refine W.get (run_ok rfl rfl ?_)
  have m1 : mulOk p.num q.den = true := mulOk_p hp.1 hq.2 (by decide) (by decide)
  have m3 : mulOk p.den q.num = true := mulOk_p hp.2 hq.1 (by decide) (by decide)
  have d0 : (0 : Int) < p.den * q.num ∨ k = 0 := h0.imp (fun h => Int.mul_pos (by have := p.den_nz; omega) (num_posQ h)) (·.1)
  have dz : (p.den : Int) * q.num ≠ 0 := Int.mul_ne_zero (den_ne p) (num_ne (h0.elim (fun h e => by subst e; exact absurd h (by decide)) (·.2)))
  have d1 : ((p.den : Int) * q.num).natAbs < 2 ^ 8000 := by rw [Int.natAbs_mul]; exact mul_p2 hp.2 hq.1
  have d2 : (p.num * q.den).natAbs < 2 ^ 9000 := by
    have h1 := mul_p2 hp.1 hq.2
    rw [Int.natAbs_mul, Int.natAbs_natCast]
    exact Nat.lt_of_lt_of_le h1 (p2_le (by decide))
  obtain ⟨bs, c, hb⟩ := hf n _ _ dz d1 d0 d2
  obtain ⟨x, y, rfl⟩ := bs2 hb
  rw [div_eq]
  clear d0 d1 d2 hb dz h0
  have i0 := @idxQ0
  have i1 := @idxQ1
  wtm_at "go"
theorem less_ok (h : P[g]? = some f_lessQ) (n : Nat) (p q : Rat) (hp : Sz 100000 p) (hq : Sz 100000 q) : callF G P (n + 1) g [.val (encQ p), .val (encQ q)] = some (.val (.bl (decide (p < q))), [.val (encQ p), .val (encQ q)]) := by
  rw [callF_succ h]; refine W.get (run_ok rfl rfl ?_)
  have m1 : mulOk p.num q.den = true := mulOk_p hp.1 hq.2 (by decide) (by decide)
  have m2 : mulOk q.num p.den = true := mulOk_p hq.1 hp.2 (by decide) (by decide)
  have e : decide (p < q) = decide (p.num * q.den < q.num * p.den) := by rw [decide_eq_decide]; exact Rat.lt_iff p q
  rw [e]
  clear e
  have i0 := @idxQ0
  have i1 := @idxQ1
  wtm_at "go"
end
/-! ### the laws' own divisors -/
theorem gcd_step {a b : Nat} : Nat.gcd b (a % b) = Nat.gcd a b := by
  rw [Nat.gcd_comm a b, Nat.gcd_rec b a, Nat.gcd_comm]
theorem half_step {a b : Nat} (hb : 0 < b) (h : b ≤ a) : 2 * (b * (a % b)) ≤ a * b := by
  have h1 := Nat.mod_lt a hb
  have h2 := Nat.div_add_mod a b
  have h3 : b * 1 ≤ b * (a / b) := Nat.mul_le_mul_left b (Nat.div_pos h hb)
  have h4 : 2 * (a % b) ≤ a := by omega
  calc 2 * (b * (a % b)) = b * (2 * (a % b)) := by rw [Nat.mul_left_comm]
    _ ≤ b * a := Nat.mul_le_mul_left b h4
    _ = a * b := Nat.mul_comm _ _
/-- how far Euclid has still to go -/
def Eu (g a b k : Nat) : Prop := Nat.gcd a b = g ∧ ((b ≤ a ∧ a * b < 2 ^ k) ∨ (a < b ∧ 0 < k ∧ a * b < 2 ^ (k - 1)))
theorem Eu.step {g a b k : Nat} (h : Eu g a b k) (hb : 0 < b) : 0 < k ∧ Eu g b (a % b) (k - 1) := by
  obtain ⟨h1, h2 | ⟨h2, h3, h4⟩⟩ := h
  · have hm := Nat.mod_lt a hb
    have hs := half_step hb h2.1
    have hp : 0 < a * b := Nat.mul_pos (by omega) hb
    have hk : 0 < k := by
      rcases Nat.eq_zero_or_pos k with e | e
      · subst e; have := h2.2; omega
      · exact e
    refine ⟨hk, gcd_step.trans h1, .inl ⟨by omega, ?_⟩⟩
    obtain ⟨j, rfl⟩ : ∃ j, k = j + 1 := ⟨k - 1, by omega⟩
    have := h2.2
    rw [Nat.pow_succ] at this
    show b * (a % b) < 2 ^ j
    omega
  · refine ⟨h3, gcd_step.trans h1, .inl ⟨by rw [Nat.mod_eq_of_lt h2]; omega, ?_⟩⟩
    rw [Nat.mod_eq_of_lt h2, Nat.mul_comm]; exact h4
theorem Eu.start {a b x y : Nat} (h1 : a < 2 ^ x) (h2 : b < 2 ^ y) : Eu (Nat.gcd a b) a b (x + y + 1) := by
  have h := mul_p2 h1 h2
  refine ⟨rfl, ?_⟩
  by_cases e : b ≤ a
  · exact .inl ⟨e, Nat.lt_of_lt_of_le h (p2_le (by omega))⟩
  · exact .inr ⟨by omega, by omega, by simpa using h⟩
theorem Eu.stop {g a k : Nat} (h : Eu g a 0 k) : g = a := by rw [← h.1, Nat.gcd_zero_right]
theorem Eu.zero {g a b : Nat} (h : Eu g a b 0) : b = 0 := by
  obtain ⟨_, ⟨h1, h2⟩ | ⟨_, h, _⟩⟩ := h
  · rcases Nat.eq_zero_or_pos b with e | e
    · exact e
    · have : 0 < a * b := Nat.mul_pos (by omega) e
      simp at h2
      omega
  · omega
def euW : Ss := (.cons (.par [0, 1] (.cons (.var 1) (.cons (.bin .mod (.bi .int (.cons (.var 0) .nil)) (.var 1)) .nil))) .nil)
theorem euW_ok {G : List D} {Φ : Calls} {a b : Nat} {Q : Out × Env → Prop} {m : Nat} (E : Eu (Nat.gcd a b) a b m) (hm : m ≤ 1000000) (q : ∀ g : Nat, g = Nat.gcd a b → Q (.next, [.val (.int g), .val (.int 0)])) :
    W (whE G Φ (.cmp .gt (.var 1) (.int 0)) euW [.val (.int a), .val (.int b)]) Q := by
  refine W_wt (fun k e => ∃ x y : Nat, Eu (Nat.gcd a b) x y k ∧ e = [.val (.int x), .val (.int y)]) m (by omega) ⟨a, b, E, rfl⟩ ?_
  rintro k e ⟨x, y, h, rfl⟩
  clear E
  wtm_at "go"
  constructor
  · intro hy
    have hy : 0 < y := by omega
    obtain ⟨h1, h2⟩ := h.step hy
    refine ⟨h1, ?_⟩
    have e1 : Int.fmod (x : Int) (y : Int) = ((x % y : Nat) : Int) := fmod_nat _ _
    have e2 : (y : Int) ≠ 0 := by omega
    clear h h1
    unfold euW
    wtm_at "go"
    exact ⟨y, x % y, h2, rfl⟩
  · intro hy
    have hy : y = 0 := by omega
    subst hy
    exact q x h.stop.symm
/-- a def that gives the greatest divisor of two ints; s: of ints from 0 alone -/
def Divs (G : List D) (P : List Fn) (f : Nat) (s : Bool) : Prop := ∀ (n : Nat) (a d : Int), a.natAbs < 2 ^ 9000 → d.natAbs < 2 ^ 9000 → (s = true → 0 ≤ a ∧ 0 ≤ d) → ∃ bs, callF G P (n + 1) f [.val (.int a), .val (.int d)] = some (.val (.int (Int.gcd a d)), bs) ∧ bs.length = 2
def f_divA : Fn := ⟨2, 2, [0, 1],
(.cons (.asg 0 (.bi .max2 (.cons (.var 0) (.cons (.neg (.var 0)) .nil))))
(.cons (.asg 1 (.bi .max2 (.cons (.var 1) (.cons (.neg (.var 1)) .nil))))
(.cons (.while (.cmp .gt (.var 1) (.int 0)) euW)
(.cons (.ret (.var 0))
.nil))))⟩
def f_divB : Fn := ⟨2, 2, [0, 1],
(.cons (.while (.cmp .gt (.var 1) (.int 0)) euW)
(.cons (.ret (.var 0))
.nil))⟩
def f_divD : Fn := ⟨2, 2, [0, 1],
(.cons (.par [0, 1] (.cons (.bi .abs (.cons (.var 0) .nil)) (.cons (.bi .abs (.cons (.var 1) .nil)) .nil)))
(.cons (.while (.cmp .gt (.var 1) (.int 0)) euW)
(.cons (.ret (.var 0))
.nil)))⟩
def euF : Ss := (.cons (.ite (.cmp .eq (.var 1) (.int 0))
(.cons .brk
.nil)
.nil)
(.cons (.par [0, 1] (.cons (.var 1) (.cons (.bin .mod (.bi .int (.cons (.var 0) .nil)) (.var 1)) .nil)))
(.cons (.kill [2])
.nil)))
def f_divC : Fn := ⟨2, 3, [0, 1],
(.cons (.par [0, 1] (.cons (.bi .abs (.cons (.var 0) .nil)) (.cons (.bi .abs (.cons (.var 1) .nil)) .nil)))
(.cons (.for (.nm 2) (.rng (.cons (.bin .add (.bin .add (.bin .mul (.int 2) (.mt .bitlen (.var 0) .nil)) (.bin .mul (.int 2) (.mt .bitlen (.var 1) .nil))) (.int 2)) .nil)) euF)
(.cons (.ret (.var 0))
.nil)))⟩
theorem gcd_abs (a d : Int) : Nat.gcd a.natAbs d.natAbs = Int.gcd a d := rfl
section
variable {G : List D} {P : List Fn} {f g h : Nat}
theorem divs_A (hf : P[f]? = some f_divA) : Divs G P f false := by
  intro n a d ha hd _
  refine ⟨[.no, .no], ?_, rfl⟩
  rw [callF_succ hf]; refine W.get (run_ok rfl rfl ?_)
  have e1 : max a (-a) = (a.natAbs : Int) := by omega
  have e2 : max d (-d) = (d.natAbs : Int) := by omega
  have E := Eu.start ha hd
  rw [← gcd_abs]
  clear ha hd
  generalize a.natAbs = x at *
  generalize d.natAbs = y at *
  wtm_at "go"
  refine euW_ok E (by decide) ?_
  rintro g rfl
  wtm_at "go"
theorem divs_D (hf : P[f]? = some f_divD) : Divs G P f false := by
  intro n a d ha hd _
  refine ⟨[.no, .no], ?_, rfl⟩
  rw [callF_succ hf]; refine W.get (run_ok rfl rfl ?_)
  have E := Eu.start ha hd
  rw [← gcd_abs]
  clear ha hd
  have ea : ∀ Q : Out × Env → Prop, Q (.next, [.val (.int (a.natAbs : Int)), .val (.int (d.natAbs : Int))]) → W (exS G (callF G P n) (.par [0, 1] (.cons (.bi .abs (.cons (.var 0) .nil)) (.cons (.bi .abs (.cons (.var 1) .nil)) .nil))) [.val (.int a), .val (.int d)]) Q := fun Q q => by
    clear E
    wtm_at "go"
  revert E ea
  generalize a.natAbs = x
  generalize d.natAbs = y
  intro E ea
  refine W_st (ea _ ?_)
  clear ea
  wtm_at "go"
  refine euW_ok E (by decide) ?_
  rintro g rfl
  wtm_at "go"
theorem divs_B (hf : P[f]? = some f_divB) : Divs G P f true := by
  intro n a d ha hd h0
  refine ⟨[.no, .no], ?_, rfl⟩
  obtain ⟨h1, h2⟩ := h0 rfl
  obtain ⟨x, rfl⟩ := Int.eq_ofNat_of_zero_le h1
  obtain ⟨y, rfl⟩ := Int.eq_ofNat_of_zero_le h2
  rw [callF_succ hf]; refine W.get (run_ok rfl rfl ?_)
  rw [Int.natAbs_natCast] at ha hd
  have E := Eu.start ha hd
  have e : Int.gcd (x : Int) (y : Int) = Nat.gcd x y := rfl
  rw [e]
  clear ha hd h0 h1 h2 e
  wtm_at "go"
  refine euW_ok E (by decide) ?_
  rintro g rfl
  wtm_at "go"
theorem mt_bits {i : Int} : mtp .bitlen (.int i) [] = some (.val (.int (bitLen i.natAbs))) := rfl
theorem mtK_bits {i : Int} : mtK .bitlen (.int i) = true := rfl
theorem bitLen_lt {x : Nat} : x < 2 ^ bitLen x := by
  unfold bitLen
  split
  · rename_i h; subst h; decide
  · exact Nat.lt_log2_self
theorem bitLen_le {x k : Nat} (h : x < 2 ^ k) : bitLen x ≤ k := by
  unfold bitLen
  split
  · omega
  · rename_i h0
    have := (Nat.log2_lt h0).mpr h
    omega
theorem divs_C (hf : P[f]? = some f_divC) : Divs G P f false := by
  intro n a d ha hd _
  refine ⟨[.no, .no], ?_, rfl⟩
  rw [callF_succ hf]; refine W.get (run_ok rfl rfl ?_)
  have ea : ∀ Q : Out × Env → Prop, Q (.next, [.val (.int (a.natAbs : Int)), .val (.int (d.natAbs : Int)), .no]) → W (exS G (callF G P n) (.par [0, 1] (.cons (.bi .abs (.cons (.var 0) .nil)) (.cons (.bi .abs (.cons (.var 1) .nil)) .nil))) [.val (.int a), .val (.int d), .no]) Q := fun Q q => by
    wtm_at "go"
  rw [← gcd_abs]
  revert ha hd ea
  generalize a.natAbs = x
  generalize d.natAbs = y
  intro ha hd ea
  refine W_st (ea _ ?_)
  have E := Eu.start (bitLen_lt (x := x)) (bitLen_lt (x := y))
  have l1 := bitLen_le ha
  have l2 := bitLen_le hd
  have b1 := @mt_bits
  have b2 := @mtK_bits
  have n1 : ((x : Int)).natAbs = x := Int.natAbs_natCast _
  have n2 : ((y : Int)).natAbs = y := Int.natAbs_natCast _
  clear ea ha hd
  wtm_at "go"
  generalize bitLen x = p at *
  generalize bitLen y = q at *
  have hn : ((2 * (p : Int) + 2 * q + 2).toNat) = 2 * p + 2 * q + 2 := by omega
  rw [hn]
  refine W_fR (fun i e => ∃ u v k : Nat, Eu (Nat.gcd x y) u v k ∧ k + i ≤ 2 * p + 2 * q + 2 ∧ e = [.val (.int u), .val (.int v), .no]) ⟨x, y, p + q + 1, E, by omega, rfl⟩ ?_ ?_
  · rintro i e hi ⟨u, v, k, h, hk, rfl⟩
    unfold euF
    clear E b1 b2 n1 n2 l1 l2 hn
    by_cases hv : v = 0
    · subst hv
      have hs := h.stop
      clear h
      wtm_at "go"
    · have hv' : ¬ ((v : Int) = 0) := by omega
      obtain ⟨h1, h2⟩ := h.step (by omega)
      have e1 : Int.fmod (u : Int) (v : Int) = ((u % v : Nat) : Int) := fmod_nat _ _
      clear h
      wtm_at "go"
      exact ⟨v, u % v, k - 1, h2, by omega, rfl⟩
  · rintro e ⟨u, v, k, h, hk, rfl⟩
    have k0 : k = 0 := by omega
    subst k0
    have := h.zero
    subst this
    have hs := h.stop
    clear E b1 b2 n1 n2 l1 l2 hn h
    wtm_at "go"
end
/-! ### the laws' own fractions -/
def f_fracL (g : Nat) : Fn := ⟨2, 3, [],
(.cons (.asg 2 (.call g (.cons (.var 0) (.cons (.var 1) .nil))))
(.cons (.ret (.tup (.cons (.bin .fdiv (.var 0) (.var 2)) (.cons (.bin .fdiv (.var 1) (.var 2)) .nil))))
.nil))⟩
def f_ratioA (g : Nat) : Fn := ⟨2, 3, [],
(.cons (.asg 2 (.call g (.cons (.var 0) (.cons (.var 1) .nil))))
(.cons (.ite (.cmp .lt (.var 1) (.int 0))
(.cons (.asg 2 (.neg (.var 2)))
.nil)
.nil)
(.cons (.ret (.tup (.cons (.bin .fdiv (.var 0) (.var 2)) (.cons (.bin .fdiv (.var 1) (.var 2)) .nil))))
.nil)))⟩
def f_ratioB (g : Nat) : Fn := ⟨2, 3, [0, 1],
(.cons (.ite (.cmp .lt (.var 1) (.int 0))
(.cons (.asg 0 (.neg (.var 0)))
(.cons (.asg 1 (.neg (.var 1)))
.nil))
.nil)
(.cons (.asg 2 (.call g (.cons (.bi .abs (.cons (.var 0) .nil)) (.cons (.var 1) .nil))))
(.cons (.ret (.tup (.cons (.bin .fdiv (.var 0) (.var 2)) (.cons (.bin .fdiv (.var 1) (.var 2)) .nil))))
.nil)))⟩
section
variable {G : List D} {P : List Fn} {f g : Nat}
theorem divOk_gcd {a d : Int} (hd : d ≠ 0) (hs : d.natAbs < 2 ^ 8000) : divOk (Int.gcd a d) = true ∧ divOk (-(Int.gcd a d : Int)) = true := by
  obtain ⟨g1, g2⟩ := gcd_dvd_le (n := a) hd
  have h9 : Int.gcd a d < 2 ^ 9000 := Nat.lt_of_le_of_lt g2 (Nat.lt_of_lt_of_le hs (p2_le (by decide)))
  constructor
  · unfold divOk
    rw [decide_eq_true (show (Int.gcd a d : Int) ≠ 0 by omega), decide_eq_true (show (Int.gcd a d : Int).natAbs < 2 ^ 9000 by rw [Int.natAbs_natCast]; exact h9)]; rfl
  · unfold divOk
    rw [decide_eq_true (show -(Int.gcd a d : Int) ≠ 0 by omega), decide_eq_true (show (-(Int.gcd a d : Int)).natAbs < 2 ^ 9000 by rw [Int.natAbs_neg, Int.natAbs_natCast]; exact h9)]; rfl
theorem makes_L (hd : Divs G P f false) (h : P[g]? = some (f_fracL f)) : Makes G P g 1 := by
  intro n a d dz ds d0 ha
  have d0 : 0 < d := d0.resolve_right (by decide)
  refine ⟨[.val (.int a), .val (.int d)], ?_, rfl⟩
  rw [callF_succ h]; refine W.get (run_ok rfl rfl ?_)
  obtain ⟨q1, q2⟩ := frQ a d dz
  obtain ⟨o1, o2⟩ := divOk_gcd (a := a) dz ds
  obtain ⟨bs, c, hb⟩ := hd (n + 2) a d ha (Nat.lt_of_lt_of_le ds (p2_le (by decide))) (by simp)
  obtain ⟨x, y, rfl⟩ := bs2 hb
  unfold encQ
  rw [q1, q2]
  have nn : ¬ (d < 0) := by omega
  rw [if_neg nn]
  clear q1 q2 hb ds ha
  wtm_at "go"
theorem makes_A (hd : Divs G P f false) (h : P[g]? = some (f_ratioA f)) : Makes G P g 0 := by
  intro n a d dz ds d0 ha
  refine ⟨[.val (.int a), .val (.int d)], ?_, rfl⟩
  rw [callF_succ h]; refine W.get (run_ok rfl rfl ?_)
  obtain ⟨q1, q2⟩ := frQ a d dz
  obtain ⟨o1, o2⟩ := divOk_gcd (a := a) dz ds
  obtain ⟨bs, c, hb⟩ := hd (n + 2) a d ha (Nat.lt_of_lt_of_le ds (p2_le (by decide))) (by simp)
  obtain ⟨x, y, rfl⟩ := bs2 hb
  unfold encQ
  rw [q1, q2]
  clear q1 q2 hb ds ha d0
  by_cases hn : d < 0
  · wtm_at "go"
  · wtm_at "go"
theorem makes_B (hd : Divs G P f true) (h : P[g]? = some (f_ratioB f)) : Makes G P g 0 := by
  intro n a d dz ds d0 ha
  refine ⟨[.no, .no], ?_, rfl⟩
  rw [callF_succ h]; refine W.get (run_ok rfl rfl ?_)
  obtain ⟨q1, q2⟩ := frQ a d dz
  obtain ⟨o1, o2⟩ := divOk_gcd (a := a) dz ds
  unfold encQ
  rw [q1, q2]
  clear q1 q2 d0
  by_cases hn : d < 0
  · have e1 : Int.gcd (((-a).natAbs : Nat) : Int) (-d) = Int.gcd a d := by rw [Int.gcd_neg, Int.natAbs_neg]; rfl
    obtain ⟨bs, c, hb⟩ := hd (n + 2) (((-a).natAbs : Nat) : Int) (-d) (by rw [Int.natAbs_natCast, Int.natAbs_neg]; exact ha) (by rw [Int.natAbs_neg]; exact Nat.lt_of_lt_of_le ds (p2_le (by decide))) (fun _ => ⟨by omega, by omega⟩)
    obtain ⟨x, y, rfl⟩ := bs2 hb
    rw [e1] at c
    have f1 : ∀ z : Int, (-z).fdiv (Int.gcd a d) = z.fdiv (-(Int.gcd a d : Int)) := fun z => by
      have := Int.neg_fdiv_neg (-z) (Int.gcd a d)
      rw [Int.neg_neg] at this
      exact this.symm
    clear hb ds ha e1
    wtm_at "go"
  · have e1 : Int.gcd ((a.natAbs : Nat) : Int) d = Int.gcd a d := rfl
    obtain ⟨bs, c, hb⟩ := hd (n + 2) ((a.natAbs : Nat) : Int) d (by rw [Int.natAbs_natCast]; exact ha) (Nat.lt_of_lt_of_le ds (p2_le (by decide))) (fun _ => ⟨by omega, by omega⟩)
    obtain ⟨x, y, rfl⟩ := bs2 hb
    rw [e1] at c
    clear hb ds ha e1
    wtm_at "go"
end
theorem castQ0 : ((0 : Int) : Rat) = 0 := rfl
theorem castQ1 : ((1 : Int) : Rat) = 1 := rfl
theorem neg_Q {q : Rat} : D.tup [.int (-q.num), .int q.den] = encQ (-q) := by
  unfold encQ
  rw [Rat.neg_num, Rat.neg_den]
theorem Sz_neg {b : Nat} {q : Rat} (h : Sz b q) : Sz b (-q) := by
  unfold Sz
  rw [Rat.neg_num, Rat.neg_den, Int.natAbs_neg]; exact h
theorem divInt_div {n d : Int} : Rat.divInt n d = (n : Rat) / (d : Rat) := by
  rw [div_eq, Rat.num_intCast, Rat.den_intCast, Rat.num_intCast, Rat.den_intCast]
  simp
/-- a cell told by a draw -/
def f_cellAA (t : Nat) : Fn := ⟨2, 3, [],
(.cons (.ite (.cmp .eq (.bi .len (.cons (.var 0) .nil)) (.int 0))
(.cons (.ret (.int 0))
.nil)
.nil)
(.cons (.asg 2 (.bi .int (.cons (.idx (.var 0) (.call t (.cons (.var 1) (.cons (.bi .len (.cons (.var 0) .nil)) .nil)))) .nil)))
(.cons (.ret (.bin .mul (.bin .mod (.bi .abs (.cons (.var 2) .nil)) (.bin .pow (.int 10) (.int 60))) (.idx (.lst (.cons (.int 1) (.cons (.neg (.int 1)) .nil))) (.bi .int (.cons (.cmp .lt (.var 2) (.int 0)) .nil)))))
.nil)))⟩
theorem cellA_ok {G : List D} {P : List Fn} {f t : Nat} (ht : P[t]? = some f_take) (h : P[f]? = some (f_cellAA t)) (n : Nat) (ns l : List Int) (hl : ns.length ≤ 1000) :
    ∃ (v : Int) (l' : List Int), v.natAbs < 10 ^ 60 ∧ callF G P (n + 2) f [.val (.fl (ns.map D.int)), .cell (l.map D.int)] = some (.val (.int v), [.val (.fl (ns.map D.int)), .cell (l'.map D.int)]) := by
  by_cases hz : ns.length = 0
  · refine ⟨0, l, by decide, ?_⟩
    rw [callF_succ h]; refine W.get (run_ok rfl rfl ?_)
    have hz' : (ns.length : Int) = 0 := by omega
    clear hz
    wtm_at "go"
  · have hz' : ¬ (ns.length : Int) = 0 := by omega
    have tk := @take_eq G P t ht
    have t0 := tv_nn (l := l) (m := ns.length) (by omega)
    have t1 := tv_lt (l := l) (m := ns.length) (by omega)
    have h3 : (10 : Int) ^ 60 ≠ 0 := by decide
    have hi := @iF Int _ D.int ns
    refine ⟨((gt ns (tv l ns.length).toNat).natAbs : Int).fmod (10 ^ 60) * (if gt ns (tv l ns.length).toNat < 0 then -1 else 1), l.dropLast, ?_, ?_⟩
    · have q1 := Int.fmod_nonneg_of_pos ((gt ns (tv l ns.length).toNat).natAbs : Int) (b := 10 ^ 60) (by decide)
      have q2 := Int.fmod_lt_of_pos ((gt ns (tv l ns.length).toNat).natAbs : Int) (b := 10 ^ 60) (by decide)
      rw [Int.natAbs_mul]
      have q3 : (if gt ns (tv l ns.length).toNat < 0 then (-1 : Int) else 1).natAbs = 1 := by split <;> rfl
      rw [q3]
      omega
    · rw [callF_succ h]; refine W.get (run_ok rfl rfl ?_)
      clear hz
      by_cases hc : gt ns (tv l ns.length).toNat < 0
      · wtm_at "go"
      · wtm_at "go"
section
variable {a b A : Int}
theorem castne (h : 0 < A) : ((A : Int) : Rat) ≠ 0 := fun e => by
  have : A = 0 := by exact_mod_cast e
  omega
theorem castpos (h : 0 < A) : (0 : Rat) < (A : Rat) := by
  rw [show (0 : Rat) = ((0 : Int) : Rat) from rfl]
  exact Rat.intCast_lt_intCast.mpr h
theorem dA_lt (h : 0 < A) : Rat.divInt a A < Rat.divInt b A ↔ a < b := by
  have := castpos h
  have hn := castne h
  rw [divInt_div, divInt_div, Rat.div_lt_iff this]
  have : (b : Rat) / A * A = b := by grind
  rw [this]
  exact Rat.intCast_lt_intCast
theorem dA_eq (h : 0 < A) : Rat.divInt a A = Rat.divInt b A ↔ a = b := by
  constructor
  · intro e
    rcases Int.lt_trichotomy a b with h' | h' | h'
    · have := (dA_lt h).mpr h'; rw [e] at this; exact absurd this (Rat.lt_irrefl)
    · exact h'
    · have := (dA_lt h).mpr h'; rw [e] at this; exact absurd this (Rat.lt_irrefl)
  · rintro rfl; rfl
theorem dA_add (h : 0 < A) : Rat.divInt a A + Rat.divInt b A = Rat.divInt (a + b) A := by
  have := castne h
  rw [divInt_div, divInt_div, divInt_div, Rat.intCast_add]
  grind
theorem dA_sub (h : 0 < A) : Rat.divInt a A - Rat.divInt b A = Rat.divInt (a - b) A := by
  have := castne h
  rw [divInt_div, divInt_div, divInt_div, Rat.intCast_sub]
  grind
theorem dA_int (h : 0 < A) : (a : Rat) = Rat.divInt (a * A) A := by
  have := castne h
  rw [divInt_div, Rat.intCast_mul]
  grind
theorem dA_zero (h : 0 < A) : (0 : Rat) = Rat.divInt 0 A := by
  have := dA_int (a := 0) h
  rw [Int.zero_mul] at this
  exact this
end
end PL

/-! Plain laws: fuel, draws one by one, loops by what they change, sameness. -/
namespace PL
open Mini
theorem fuel {k n : Nat} (h : k + 1 ≤ n) : ∃ m, n = m + 1 := ⟨n - 1, by omega⟩
theorem take_n {G : List D} {P : List Fn} {f : Nat} (h : P[f]? = some f_take) {n : Nat} (hn : 1 ≤ n) (l : List Int) (m : Int) (hm : 0 < m) :
    callF G P n f [.cell (l.map D.int), .val (.int m)] = some (.val (.int (tv l m)), [.cell (l.dropLast.map D.int), .val (.int m)]) := by
  obtain ⟨n, rfl⟩ := fuel hn
  exact take_eq h n l m hm
/-- a draw: some number within its bound -/
theorem take_q {G : List D} {P : List Fn} {f n : Nat} {l : List Int} {m : Int} {Q : RV × List B → Prop} (h : P[f]? = some f_take) (hn : 1 ≤ n) (hm : 0 < m)
    (q : ∀ (v : Int) (l' : List Int), 0 ≤ v → v < m → Q (.val (.int v), [.cell (l'.map D.int), .val (.int m)])) : W (callF G P n f [.cell (l.map D.int), .val (.int m)]) Q :=
  ⟨_, take_n h hn l m hm, q _ _ (tv_nn hm) (tv_lt hm)⟩
theorem cell_n {G : List D} {P : List Fn} {f p : Nat} (h : P[f]? = some (f_cellP p)) (hp : p ≤ 1000000) {n : Nat} (hn : 1 ≤ n) (ns : List Int) (a : Int) :
    callF G P n f [.val (.fl (ns.map D.int)), .val (.int a)] = some (.val (.int (cv p ns a)), [.val (.fl (ns.map D.int)), .val (.int a)]) := by
  obtain ⟨n, rfl⟩ := fuel hn
  exact cell_eq h hp n ns a
/-! ### flat values -/
def FlL (k : Nat) (xs : List D) : Prop := ∀ x ∈ xs, Fl k x
theorem FlL_nil {k : Nat} : FlL k [] := fun _ h => by cases h
theorem FlL_cons {k : Nat} {x : D} {xs : List D} (h : Fl k x) (h2 : FlL k xs) : FlL k (x :: xs) := fun y hy => by
  rcases List.mem_cons.mp hy with rfl | hy
  · exact h
  · exact h2 y hy
theorem FlL_app {k : Nat} {x y : List D} (h : FlL k x) (h2 : FlL k y) : FlL k (x ++ y) := fun z hz => by
  rcases List.mem_append.mp hz with hz | hz
  · exact h z hz
  · exact h2 z hz
theorem FlL_map {α : Type} {k : Nat} {f : α → D} {l : List α} (h : ∀ a ∈ l, Fl k (f a)) : FlL k (l.map f) := fun z hz => by
  obtain ⟨a, ha, rfl⟩ := List.mem_map.mp hz
  exact h a ha
theorem Fl_tupL {k : Nat} {xs : List D} (hl : xs.length ≤ 1000000) (h : FlL (k + 1) xs) : Fl (k + 2) (.tup xs) := Fl_tup h hl
theorem Fl_hd {α : Type} {k : Nat} {f : α → D} {l : List α} {d : D} (h : ∀ a ∈ l, Fl k (f a)) (h2 : Fl k d) : Fl k (hd l f d) := by
  cases l with
  | nil => exact h2
  | cons a l => exact h a (List.mem_cons_self ..)
theorem Fl_ite {k : Nat} {c : Prop} [Decidable c] {a b : D} (h : Fl k a) (h2 : Fl k b) : Fl k (if c then a else b) := by split <;> assumption
local macro_rules | `(tactic| wtm_at "fl") => `(tactic| first | exact Fl_int | exact Fl_bl | exact Fl_non | exact Fl_str | assumption | (refine Fl_ite ?_ ?_ <;> wtm_at "fl") | (refine Fl_hd (fun _ _ => ?_) ?_ <;> wtm_at "fl") | (refine Fl_map (fun _ _ => ?_) ?_; (wtm_at "fl"); (first | omega | (simp only [List.length_map, List.length_range, List.length_cons, List.length_nil, List.length_append, List.length_set, List.length_reverse, List.length_take, List.length_drop]; omega) | (simp only [*]; omega))) | (refine Fl_tupL ?_ ?_; (first | omega | (simp only [List.length_map, List.length_range, List.length_cons, List.length_nil, List.length_append, List.length_set, List.length_reverse, List.length_take, List.length_drop]; omega) | (simp only [*]; omega)); wtm_at "fl") | exact FlL_nil | (refine FlL_cons ?_ ?_ <;> wtm_at "fl") | (refine FlL_app ?_ ?_ <;> wtm_at "fl") | (refine FlL_map (fun _ _ => ?_); wtm_at "fl"))
example {l : List Int} (h : l.length ≤ 100) {p : Prop} [Decidable p] : Fl 8 (.tup [.int 3, .tup (l.map fun x => .tup [.int x, .bl true]), if p then .non else .str [3]]) := by wtm_at "fl"
theorem same_n {G : List D} {P : List Fn} {f : Nat} (h : P[f]? = some (f_sameA f) ∨ P[f]? = some (f_sameB f)) {n : Nat} {d : D} (hn : 8 ≤ n) (hd : Fl 8 d) : callF G P n f [.val d, .val d] = some (.val (.bl true), [.val d, .val d]) := same_eq h hd hn
theorem eqD_s {d : D} (hd : Fl 8 d) : eqD d d = true := eqD_Fl hd
theorem dok_s {d : D} {n : Nat} (hd : Fl 8 d) : dok (depD d) n = true := dok_Fl hd (by decide)
theorem rev_t {xs : List D} : revD (.tup xs) = some (.val (.tup xs.reverse)) := rfl
theorem rev_v {xs : List D} : revD (.vl xs) = some (.own xs.reverse) := rfl
/-! ### loops -/
section
variable {G : List D} {Φ : Calls} {env : Env} {α σ : Type} {f : α → D} {l : List α} {t : T} {b : Ss} {Q : Out × Env → Prop}
/-- a loop, by what it has changed behind i turns -/
theorem W_fE (V : Nat → Env → Env) (h0 : V 0 env = env)
    (hs : ∀ i a, i < l.length → l[i]? = some a → W ((bindT (V i env) t (f a)).bind fun e => exSs G Φ b e) fun p => match p.1 with
      | .next => p.2 = V (i + 1) env
      | .brk => Q (.next, p.2)
      | .ret r => Q (.ret r, p.2))
    (q : Q (.next, V l.length env)) : W (forE G Φ t b (l.map f) env) Q :=
  W_fM (fun i e => e = V i env) h0.symm (fun i a e hi ha he => by subst he; exact hs i a hi ha) fun e he => by subst he; exact q
/-- a loop with a state, of which something is known behind i turns -/
theorem W_fX (P : Nat → σ → Prop) (V : σ → Env → Env) (s0 : σ) (hP : P 0 s0) (h0 : V s0 env = env)
    (hs : ∀ i a s, i < l.length → l[i]? = some a → P i s → W ((bindT (V s env) t (f a)).bind fun e => exSs G Φ b e) fun p => match p.1 with
      | .next => ∃ s', P (i + 1) s' ∧ p.2 = V s' env
      | .brk => Q (.next, p.2)
      | .ret r => Q (.ret r, p.2))
    (q : ∀ s, P l.length s → Q (.next, V s env)) : W (forE G Φ t b (l.map f) env) Q :=
  W_fM (fun i e => ∃ s, P i s ∧ e = V s env) ⟨s0, hP, h0.symm⟩ (fun i a e hi ha ⟨s, hp, he⟩ => by subst he; exact hs i a s hi ha hp) fun e ⟨s, hp, he⟩ => by subst he; exact q s hp
theorem W_fER {n : Nat} {f : Nat → D} (V : Nat → Env → Env) (h0 : V 0 env = env)
    (hs : ∀ i, i < n → W ((bindT (V i env) t (f i)).bind fun e => exSs G Φ b e) fun p => match p.1 with
      | .next => p.2 = V (i + 1) env
      | .brk => Q (.next, p.2)
      | .ret r => Q (.ret r, p.2))
    (q : Q (.next, V n env)) : W (forE G Φ t b ((List.range n).map f) env) Q :=
  W_fR (fun i e => e = V i env) h0.symm (fun i e hi he => by subst he; exact hs i hi) fun e he => by subst he; exact q
theorem W_fXR {n : Nat} {f : Nat → D} (P : Nat → σ → Prop) (V : σ → Env → Env) (s0 : σ) (hP : P 0 s0) (h0 : V s0 env = env)
    (hs : ∀ i s, i < n → P i s → W ((bindT (V s env) t (f i)).bind fun e => exSs G Φ b e) fun p => match p.1 with
      | .next => ∃ s', P (i + 1) s' ∧ p.2 = V s' env
      | .brk => Q (.next, p.2)
      | .ret r => Q (.ret r, p.2))
    (q : ∀ s, P n s → Q (.next, V s env)) : W (forE G Φ t b ((List.range n).map f) env) Q :=
  W_fR (fun i e => ∃ s, P i s ∧ e = V s env) ⟨s0, hP, h0.symm⟩ (fun i e hi ⟨s, hp, he⟩ => by subst he; exact hs i s hi hp) fun e ⟨s, hp, he⟩ => by subst he; exact q s hp
end
theorem take_snoc {α : Type} {l : List α} {i : Nat} {a : α} (h : l[i]? = some a) : l.take (i + 1) = l.take i ++ [a] := by
  rw [List.take_succ, h]; rfl
theorem rev_at {α : Type} {l : List α} {i : Nat} {a : α} (h : l.reverse[i]? = some a) : l.drop (l.length - (i + 1)) = a :: l.drop (l.length - i) := by
  obtain ⟨hi, e⟩ := List.getElem?_eq_some_iff.mp h
  rw [List.length_reverse] at hi
  rw [List.getElem_reverse] at e
  have := List.drop_eq_getElem_cons (l := l) (i := l.length - (i + 1)) (by omega)
  rw [this, show l.length - (i + 1) + 1 = l.length - i by omega]
  congr 1
  rw [← e]; congr 1; omega
theorem mem_of_at {α : Type} {P : α → Prop} {l : List α} (h : ∀ (i : Nat) a, l[i]? = some a → P a) : ∀ a ∈ l, P a := fun a ha => by
  obtain ⟨i, hi⟩ := List.mem_iff_getElem?.mp ha
  exact h i a hi
end PL

/-! Plain laws: values in order. -/
namespace PL
open Mini
theorem lexI_irr : ∀ a : List Int, lexI a a = false
  | [] => rfl
  | x :: r => by
    show (decide (x < x) || (!decide (x < x) && lexI r r)) = false
    rw [lexI_irr r]; simp
theorem lexI_cons {x y : Int} {r t : List Int} : lexI (x :: r) (y :: t) = true ↔ x < y ∨ (x = y ∧ lexI r t = true) := by
  show (decide (x < y) || (!decide (y < x) && lexI r t)) = true ↔ _
  simp only [Bool.or_eq_true, decide_eq_true_eq, Bool.and_eq_true, Bool.not_eq_true', decide_eq_false_iff_not]
  constructor
  · rintro (h | ⟨h, h2⟩)
    · exact .inl h
    · by_cases h3 : x < y
      · exact .inl h3
      · exact .inr ⟨by omega, h2⟩
  · rintro (h | ⟨h, h2⟩)
    · exact .inl h
    · exact .inr ⟨by omega, h2⟩
theorem lexI_tr : ∀ {a b c : List Int}, lexI a b = true → lexI b c = true → lexI a c = true
  | _, [], [], _, h2 => by cases h2
  | [], _ :: _, [], _, h2 => by cases h2
  | _ :: _, _ :: _, [], _, h2 => by cases h2
  | [], [], _ :: _, h, _ => by cases h
  | [], _ :: _, _ :: _, _, _ => rfl
  | _ :: _, [], _ :: _, h, _ => by cases h
  | x :: a, y :: b, z :: c, h, h2 => by
    rw [lexI_cons] at *
    rcases h with h | ⟨h, h3⟩ <;> rcases h2 with h2 | ⟨h2, h4⟩
    · exact .inl (by omega)
    · exact .inl (by omega)
    · exact .inl (by omega)
    · exact .inr ⟨by omega, lexI_tr h3 h4⟩
theorem lexI_tot : ∀ {a b : List Int}, lexI a b = false → lexI b a = false → a = b
  | [], [], _, _ => rfl
  | [], _ :: _, h, _ => by cases h
  | _ :: _, [], _, h => by cases h
  | x :: a, y :: b, h, h2 => by
    have h' : ¬ lexI (x :: a) (y :: b) = true := by rw [h]; simp
    have h2' : ¬ lexI (y :: b) (x :: a) = true := by rw [h2]; simp
    rw [lexI_cons] at h' h2'
    have e : x = y := by omega
    subst e
    have := lexI_tot (a := a) (b := b) (by cases hh : lexI a b <;> simp_all) (by cases hh : lexI b a <;> simp_all)
    rw [this]
theorem lexI_le_tr {a b c : List Int} (h : lexI b a = false) (h2 : lexI c b = false) : lexI c a = false := by
  cases e : lexI c a with
  | false => rfl
  | true =>
    cases e2 : lexI b c with
    | true => rw [lexI_tr e2 e] at h; cases h
    | false => rw [lexI_tot e2 h2] at h; rw [h] at e; cases e
theorem lexI_asm {a b : List Int} (h : lexI a b = true) : lexI b a = false := by
  cases e : lexI b a with
  | false => rfl
  | true => have := lexI_tr h e; rw [lexI_irr] at this; cases this
/-! ### encodings with an order -/
structure En {α : Type} (k : Nat) (f : α → D) : Prop where
  od : ∀ a, ordD (f a) = true
  dp : ∀ a, depD (f a) ≤ k
  al : ∀ a b, alk (f a) (f b) = true
  pf : ∀ a b u v, kt (f a) ++ u = kt (f b) ++ v → a = b ∧ u = v
section
variable {α β γ : Type} {f : α → D} {g : β → D} {h : γ → D} {k : Nat}
theorem En.int : En k D.int := ⟨fun _ => rfl, fun _ => Nat.zero_le _, fun _ _ => rfl, fun a b u v h => by
  have h' : a :: u = b :: v := h
  cases h'; exact ⟨rfl, rfl⟩⟩
theorem En.nat : En k (fun n : Nat => D.int n) := ⟨fun _ => rfl, fun _ => Nat.zero_le _, fun _ _ => rfl, fun a b u v h => by
  have h' : (a : Int) :: u = (b : Int) :: v := h
  injection h' with h1 h2
  exact ⟨by omega, h2⟩⟩
theorem En.pair (hf : En k f) (hg : En k g) : En (k + 1) (fun p : α × β => D.tup [f p.1, g p.2]) := by
  refine ⟨fun a => ?_, fun a => ?_, fun a b => ?_, fun a b u v e => ?_⟩
  · show (ordD (f a.1) && (ordD (g a.2) && true)) = true
    rw [hf.od, hg.od]; rfl
  · show max (depD (f a.1)) (max (depD (g a.2)) 0) + 1 ≤ k + 1
    have := hf.dp a.1; have := hg.dp a.2; omega
  · show (alk (f a.1) (f b.1) && (alk (g a.2) (g b.2) && true)) = true
    rw [hf.al, hg.al]; rfl
  · have e' : (1 :: (kt (f a.1) ++ (1 :: (kt (g a.2) ++ [0])))) ++ u = (1 :: (kt (f b.1) ++ (1 :: (kt (g b.2) ++ [0])))) ++ v := e
    simp only [List.cons_append, List.append_assoc, List.cons.injEq, true_and] at e'
    obtain ⟨e1, e2⟩ := hf.pf _ _ _ _ e'
    simp only [List.cons_append, List.cons.injEq, true_and] at e2
    obtain ⟨e3, e4⟩ := hg.pf _ _ _ _ e2
    simp only [List.cons.injEq, true_and] at e4
    exact ⟨Prod.ext e1 e3, e4⟩
theorem En.tup (hf : En k f) : En (k + 1) (fun l : List α => D.tup (l.map f)) := by
  refine ⟨fun a => ?_, fun a => ?_, fun a b => ?_, fun a => ?_⟩
  · show ordDs (a.map f) = true
    induction a with
    | nil => rfl
    | cons x r ih => show (ordD (f x) && ordDs (r.map f)) = true; rw [hf.od, ih]; rfl
  · show depDs (a.map f) + 1 ≤ k + 1
    induction a with
    | nil => exact Nat.le_add_left _ _
    | cons x r ih => show max (depD (f x)) (depDs (r.map f)) + 1 ≤ k + 1; have := hf.dp x; omega
  · show alks (a.map f) (b.map f) = true
    induction a generalizing b with
    | nil => cases b <;> rfl
    | cons x r ih => cases b with
      | nil => rfl
      | cons y t => show (alk (f x) (f y) && alks (r.map f) (t.map f)) = true; rw [hf.al, ih]; rfl
  · induction a with
    | nil => intro b u v e; cases b with
      | nil => exact ⟨rfl, by simpa [kt, kts] using e⟩
      | cons y t => exact absurd (show (0 : Int) = 1 from (List.cons.inj (show (0 : Int) :: u = 1 :: ((kt (f y) ++ kts (t.map f)) ++ v) from e)).1) (by decide)
    | cons x r ih => intro b u v e; cases b with
      | nil => exact absurd (show (1 : Int) = 0 from (List.cons.inj (show (1 : Int) :: ((kt (f x) ++ kts (r.map f)) ++ u) = 0 :: v from e)).1) (by decide)
      | cons y t =>
        have e' : (kt (f x) ++ kts (r.map f)) ++ u = (kt (f y) ++ kts (t.map f)) ++ v := (List.cons.inj (show (1 : Int) :: ((kt (f x) ++ kts (r.map f)) ++ u) = 1 :: ((kt (f y) ++ kts (t.map f)) ++ v) from e)).2
        rw [List.append_assoc, List.append_assoc] at e'
        obtain ⟨e1, e2⟩ := hf.pf _ _ _ _ e'
        obtain ⟨e3, e4⟩ := ih t u v e2
        exact ⟨by rw [e1, e3], e4⟩
theorem En.inj (hf : En k f) {a b : α} (h : kt (f a) = kt (f b)) : a = b := (hf.pf a b [] [] (by rw [h])).1
/-- less, by the order of values -/
def ltE (f : α → D) (a b : α) : Bool := ltO (f a) (f b)
theorem ltE_irr {a : α} : ltE f a a = false := lexI_irr _
theorem ltE_tr {a b c : α} (h : ltE f a b = true) (h2 : ltE f b c = true) : ltE f a c = true := lexI_tr h h2
theorem ltE_le_tr {a b c : α} (h : ltE f b a = false) (h2 : ltE f c b = false) : ltE f c a = false := lexI_le_tr h h2
theorem ltE_asm {a b : α} (h : ltE f a b = true) : ltE f b a = false := lexI_asm h
theorem ltE_tot (hf : En k f) {a b : α} (h : ltE f a b = false) (h2 : ltE f b a = false) : a = b := hf.inj (lexI_tot h h2)
theorem ltE_int {a b : Int} : ltE D.int a b = decide (a < b) := by
  show (decide (a < b) || (!decide (b < a) && false)) = _
  simp
theorem lexI_app (hf : En k f) {a b : α} {u v : List Int} : lexI (kt (f a) ++ u) (kt (f b) ++ v) = true ↔ ltE f a b = true ∨ (a = b ∧ lexI u v = true) := by
  have pre : ∀ (x y u v : List Int), lexI (x ++ u) (y ++ v) = true → lexI x y = true ∨ lexI y x = true ∨ (x = y ∧ lexI u v = true) ∨ (∃ w, x ++ w = y) ∨ (∃ w, y ++ w = x) := by
    intro x
    induction x with
    | nil => intro y u v h; exact .inr (.inr (.inr (.inl ⟨y, rfl⟩)))
    | cons p x ih =>
      intro y u v h
      cases y with
      | nil => exact .inr (.inr (.inr (.inr ⟨p :: x, rfl⟩)))
      | cons q y =>
        rw [List.cons_append, List.cons_append, lexI_cons] at h
        rcases h with h | ⟨rfl, h⟩
        · exact .inl (lexI_cons.mpr (.inl h))
        · rcases ih y u v h with h | h | ⟨rfl, h5⟩ | ⟨w, h⟩ | ⟨w, h⟩
          · exact .inl (lexI_cons.mpr (.inr ⟨rfl, h⟩))
          · exact .inr (.inl (lexI_cons.mpr (.inr ⟨rfl, h⟩)))
          · exact .inr (.inr (.inl ⟨rfl, h5⟩))
          · exact .inr (.inr (.inr (.inl ⟨w, by rw [List.cons_append, h]⟩)))
          · exact .inr (.inr (.inr (.inr ⟨w, by rw [List.cons_append, h]⟩)))
  have ext : ∀ (x y u v : List Int), lexI x y = true → (¬ ∃ w, x ++ w = y) → lexI (x ++ u) (y ++ v) = true := by
    intro x
    induction x with
    | nil => intro y u v h hn; exact absurd ⟨y, rfl⟩ hn
    | cons p x ih =>
      intro y u v h hn
      cases y with
      | nil => cases h
      | cons q y =>
        rw [lexI_cons] at h
        rw [List.cons_append, List.cons_append, lexI_cons]
        rcases h with h | ⟨rfl, h⟩
        · exact .inl h
        · exact .inr ⟨rfl, ih y u v h fun ⟨w, hw⟩ => hn ⟨w, by rw [List.cons_append, hw]⟩⟩
  have nopre : ∀ a b : α, (∃ w, kt (f a) ++ w = kt (f b)) → a = b := fun a b ⟨w, hw⟩ => (hf.pf a b w [] (by rw [hw, List.append_nil])).1
  have same : ∀ (x u v : List Int), lexI (x ++ u) (x ++ v) = lexI u v := by
    intro x u v
    induction x with
    | nil => rfl
    | cons p x ih =>
      show (decide (p < p) || (!decide (p < p) && lexI (x ++ u) (x ++ v))) = _
      rw [ih]; simp
  constructor
  · intro h
    by_cases e : a = b
    · subst e
      rw [same] at h
      exact .inr ⟨rfl, h⟩
    · rcases pre _ _ _ _ h with h2 | h2 | ⟨h2, h3⟩ | h2 | h2
      · exact .inl h2
      · have := ext _ _ v u h2 fun hw => e (nopre b a hw).symm
        rw [lexI_asm this] at h; cases h
      · exact absurd (hf.inj h2) e
      · exact absurd (nopre a b h2) e
      · exact absurd (nopre b a h2).symm e
  · rintro (h | ⟨rfl, h⟩)
    · refine ext _ _ _ _ h fun hw => ?_
      have := nopre a b hw
      subst this
      rw [ltE_irr] at h; cases h
    · rw [same]; exact h
theorem ltE_pair (hf : En k f) (hg : En k g) {a b : α × β} : ltE (fun p : α × β => D.tup [f p.1, g p.2]) a b = true ↔ ltE f a.1 b.1 = true ∨ (a.1 = b.1 ∧ ltE g a.2 b.2 = true) := by
  have e : ltE (fun p : α × β => D.tup [f p.1, g p.2]) a b = lexI (1 :: (kt (f a.1) ++ (1 :: (kt (g a.2) ++ [0])))) (1 :: (kt (f b.1) ++ (1 :: (kt (g b.2) ++ [0])))) := rfl
  rw [e, lexI_cons, lexI_app hf, lexI_cons, lexI_app hg, lexI_irr]
  simp
/-- the least of some -/
def minE (f : α → D) [Inhabited α] (l : List α) : α := match l with
  | [] => default
  | m :: r => r.foldl (fun a y => if ltE f y a then y else a) m
theorem minOf_map {m : α} {l : List α} : minOf (f m) (l.map f) = f (l.foldl (fun a y => if ltE f y a then y else a) m) := by
  induction l generalizing m with
  | nil => rfl
  | cons x r ih =>
    show minOf (if ltO (f x) (f m) then f x else f m) (r.map f) = f (r.foldl _ (if ltE f x m then x else m))
    rw [← ih]
    congr 1
    unfold ltE
    split <;> rfl
theorem foldmin_spec {l : List α} : ∀ {m : α}, ((l.foldl (fun a y => if ltE f y a then y else a) m) = m ∨ (l.foldl (fun a y => if ltE f y a then y else a) m) ∈ l) ∧ ltE f m (l.foldl (fun a y => if ltE f y a then y else a) m) = false ∧ ∀ b ∈ l, ltE f b (l.foldl (fun a y => if ltE f y a then y else a) m) = false := by
  induction l with
  | nil => intro m; exact ⟨.inl rfl, ltE_irr, fun b h => by cases h⟩
  | cons x r ih =>
    intro m
    rw [List.foldl_cons]
    obtain ⟨h1, h2, h3⟩ := ih (m := if ltE f x m then x else m)
    generalize r.foldl (fun a y => if ltE f y a then y else a) (if ltE f x m then x else m) = z at *
    by_cases c : ltE f x m = true
    · rw [if_pos c] at h1 h2
      refine ⟨.inr ?_, ltE_le_tr h2 (ltE_asm c), fun b hb => ?_⟩
      · rcases h1 with h1 | h1
        · rw [h1]; exact List.mem_cons_self ..
        · exact List.mem_cons_of_mem _ h1
      · rcases List.mem_cons.mp hb with rfl | hb
        · exact h2
        · exact h3 b hb
    · rw [if_neg c] at h1 h2
      have c' : ltE f x m = false := by cases e : ltE f x m <;> simp_all
      refine ⟨?_, h2, fun b hb => ?_⟩
      · rcases h1 with h1 | h1
        · exact .inl h1
        · exact .inr (List.mem_cons_of_mem _ h1)
      · rcases List.mem_cons.mp hb with rfl | hb
        · exact ltE_le_tr h2 c'
        · exact h3 b hb
theorem minE_mem [Inhabited α] {l : List α} (h : 0 < l.length) : minE f l ∈ l := by
  cases l with
  | nil => simp at h
  | cons m r =>
    rcases (foldmin_spec (f := f) (l := r) (m := m)).1 with h | h
    · show r.foldl _ m ∈ _; rw [h]; exact List.mem_cons_self ..
    · exact List.mem_cons_of_mem _ h
theorem minE_le [Inhabited α] {l : List α} {b : α} (hb : b ∈ l) : ltE f b (minE f l) = false := by
  cases l with
  | nil => cases hb
  | cons m r =>
    rcases List.mem_cons.mp hb with rfl | hb
    · exact (foldmin_spec (f := f) (l := r)).2.1
    · exact (foldmin_spec (f := f) (l := r)).2.2 b hb
/-- there is just one least -/
theorem least_one (hf : En k f) {l : List α} {a b : α} (ha : a ∈ l) (hb : b ∈ l) (h1 : ∀ x ∈ l, ltE f x a = false) (h2 : ∀ x ∈ l, ltE f x b = false) : a = b := ltE_tot hf (h2 a ha) (h1 b hb)
theorem minE_eq (hf : En k f) [Inhabited α] {l : List α} {a : α} (ha : a ∈ l) (h1 : ∀ x ∈ l, ltE f x a = false) : minE f l = a :=
  least_one hf (minE_mem (List.length_pos_of_mem ha)) ha (fun _ hx => minE_le hx) h1
theorem ordOk_map (hf : En k f) (hk : k ≤ 8) (h1 : ∀ a, isT1 (f a) = true) {l : List α} : ordOk (l.map f) = true := by
  unfold ordOk
  rw [Bool.and_eq_true, List.all_eq_true, List.all_eq_true]
  constructor
  · intro x hx
    obtain ⟨a, _, rfl⟩ := List.mem_map.mp hx
    rw [hf.od, h1, decide_eq_true (Nat.le_trans (hf.dp a) hk)]; rfl
  · intro x hx
    rw [List.all_eq_true]
    intro y hy
    obtain ⟨a, _, rfl⟩ := List.mem_map.mp hx
    obtain ⟨b, _, rfl⟩ := List.mem_map.mp hy
    exact hf.al a b
theorem ints_T1 (h1 : ∀ a, isT1 (f a) = true) {a : α} {l : List α} : intsD ((a :: l).map f) = none := by
  have := h1 a
  show intsD (f a :: l.map f) = none
  cases e : f a <;> rw [e] at this <;> first | rfl | cases this
/-- in order -/
def srtE (f : α → D) (l : List α) : List α := l.mergeSort fun a b => !ltE f b a
theorem b_sorted (hf : En k f) (hk : k ≤ 8) (h1 : ∀ a, isT1 (f a) = true) {l : List α} : bip .sorted [.vl (l.map f)] = some (.own ((srtE f l).map f)) := by
  show ((((some (l.map f)).bind intsD).map fun l => RV.own ((sortI l).map .int)).or (((some (l.map f)).bind ordA).map fun l => .own (l.mergeSort leO))) = _
  rw [Option.bind_some, Option.bind_some]
  cases l with
  | nil =>
    have e1 : srtE f [] = [] := by unfold srtE; rw [List.mergeSort_nil]
    have e2 : sortI [] = [] := by unfold sortI; rw [List.mergeSort_nil]
    rw [e1]
    show some (RV.own (List.map D.int (sortI []))) = _
    rw [e2]; rfl
  | cons a l =>
    rw [ints_T1 h1]
    unfold ordA
    rw [if_pos (ordOk_map hf hk h1)]
    show some (RV.own _) = _
    unfold srtE
    rw [List.map_mergeSort (s := leO) (f := f)]
    intro a _ b _
    rfl
theorem b_min1 [Inhabited α] (hf : En k f) (hk : k ≤ 8) (h1 : ∀ a, isT1 (f a) = true) {l : List α} (hl : 0 < l.length) : bip .min1 [.vl (l.map f)] = some (.val (f (minE f l))) := by
  show (((((some (l.map f)).bind intsD).bind tl1).map fun p => RV.val (.int (minI p.1 p.2))).or (((some (l.map f)).bind ordL).map fun p => .val (minOf p.1 p.2))) = _
  rw [Option.bind_some, Option.bind_some]
  cases l with
  | nil => simp at hl
  | cons a l =>
    rw [ints_T1 h1]
    have e : ordL ((a :: l).map f) = some (f a, l.map f) := by
      show (if _ then _ else _) = _
      exact if_pos (ordOk_map hf hk h1 (l := a :: l))
    rw [e]
    show some (RV.val (minOf (f a) (l.map f))) = _
    rw [minOf_map]; rfl
theorem srt_perm {l : List α} : (srtE f l).Perm l := List.mergeSort_perm _ _
theorem srt_mem {l : List α} {a : α} : a ∈ srtE f l ↔ a ∈ l := srt_perm.mem_iff
theorem srt_len {l : List α} : (srtE f l).length = l.length := srt_perm.length_eq
theorem srt_pw {l : List α} : (srtE f l).Pairwise fun a b => ltE f b a = false := by
  have := List.pairwise_mergeSort (le := fun a b => !ltE f b a) (fun a b c h1 h2 => by
    simp only [Bool.not_eq_true'] at *
    exact ltE_le_tr h1 h2) (fun a b => by
    cases e : ltE f b a with
    | false => rfl
    | true => rw [ltE_asm e]; rfl) l
  exact this.imp fun h => by simpa using h
/-- the first of those that fit, in order, is the least of those that fit -/
theorem srt_first {l : List α} {p : α → Bool} {a : α} {r : List α} (h : (srtE f l).filter p = a :: r) : a ∈ l ∧ p a = true ∧ ∀ b ∈ l, p b = true → ltE f b a = false := by
  have hm : a ∈ (srtE f l).filter p := by rw [h]; exact List.mem_cons_self ..
  rw [List.mem_filter] at hm
  refine ⟨srt_mem.mp hm.1, hm.2, fun b hb hpb => ?_⟩
  have hb' : b ∈ (srtE f l).filter p := List.mem_filter.mpr ⟨srt_mem.mpr hb, hpb⟩
  rw [h] at hb'
  have pw := (srt_pw (f := f) (l := l)).filter p
  rw [h] at pw
  rcases List.mem_cons.mp hb' with rfl | hb'
  · exact ltE_irr
  · exact List.rel_of_pairwise_cons pw hb'
theorem srt_head {l : List α} {a : α} {r : List α} (h : srtE f l = a :: r) : a ∈ l ∧ ∀ b ∈ l, ltE f b a = false := by
  have := srt_first (f := f) (l := l) (p := fun _ => true) (a := a) (r := r) (by rw [List.filter_eq_self.mpr (fun _ _ => rfl), h])
  exact ⟨this.1, fun b hb => this.2.2 b hb rfl⟩
end
/-! ### the least, the greatest of whole numbers -/
theorem minI_le {l : List Int} : ∀ {m : Int}, minI m l ≤ m ∧ ∀ x ∈ l, minI m l ≤ x := by
  induction l with
  | nil => intro m; exact ⟨Int.le_refl _, fun x h => by cases h⟩
  | cons y r ih =>
    intro m
    have := ih (m := min m y)
    have e : minI m (y :: r) = minI (min m y) r := rfl
    rw [e]
    refine ⟨by omega, fun x hx => ?_⟩
    rcases List.mem_cons.mp hx with rfl | hx
    · omega
    · exact this.2 x hx
theorem minI_mem {l : List Int} : ∀ {m : Int}, minI m l = m ∨ minI m l ∈ l := by
  induction l with
  | nil => intro m; exact .inl rfl
  | cons y r ih =>
    intro m
    have e : minI m (y :: r) = minI (min m y) r := rfl
    rw [e]
    rcases ih (m := min m y) with h | h
    · rw [h]
      rcases Int.min_def m y ▸ (by split <;> simp : (if m ≤ y then m else y) = m ∨ (if m ≤ y then m else y) = y) with h2 | h2
      · exact .inl h2
      · exact .inr (by rw [h2]; exact List.mem_cons_self ..)
    · exact .inr (List.mem_cons_of_mem _ h)
/-- the least, the greatest -/
def mnL : List Int → Int
  | [] => 0
  | m :: r => minI m r
def mxL : List Int → Int
  | [] => 0
  | m :: r => maxI m r
theorem mnL_mem {l : List Int} (h : 0 < l.length) : mnL l ∈ l := by
  cases l with
  | nil => simp at h
  | cons m r =>
    rcases minI_mem (m := m) (l := r) with h | h
    · show minI m r ∈ _; rw [h]; exact List.mem_cons_self ..
    · exact List.mem_cons_of_mem _ h
theorem mnL_le {l : List Int} {x : Int} (h : x ∈ l) : mnL l ≤ x := by
  cases l with
  | nil => cases h
  | cons m r =>
    have := minI_le (m := m) (l := r)
    rcases List.mem_cons.mp h with rfl | h
    · exact this.1
    · exact this.2 x h
theorem mnL_eq {l : List Int} {m : Int} (h : m ∈ l) (h2 : ∀ x ∈ l, m ≤ x) : mnL l = m := by
  have := mnL_le h
  have := h2 _ (mnL_mem (List.length_pos_of_mem h))
  omega
theorem mxL_mem {l : List Int} (h : 0 < l.length) : mxL l ∈ l := by
  cases l with
  | nil => simp at h
  | cons m r =>
    rcases maxI_mem (m := m) (l := r) with h | h
    · show maxI m r ∈ _; rw [h]; exact List.mem_cons_self ..
    · exact List.mem_cons_of_mem _ h
theorem mxL_ge {l : List Int} {x : Int} (h : x ∈ l) : x ≤ mxL l := by
  cases l with
  | nil => cases h
  | cons m r =>
    have := maxI_ge (m := m) (l := r)
    rcases List.mem_cons.mp h with rfl | h
    · exact this.1
    · exact this.2 x h
theorem mxL_eq {l : List Int} {m : Int} (h : m ∈ l) (h2 : ∀ x ∈ l, x ≤ m) : mxL l = m := by
  have := mxL_ge h
  have := h2 _ (mxL_mem (List.length_pos_of_mem h))
  omega
theorem b_mnI {l : List Int} (h : 0 < l.length) : bip .min1 [.vl (l.map D.int)] = some (.val (.int (mnL l))) ∧ bip .min1 [.tup (l.map D.int)] = some (.val (.int (mnL l))) := by
  cases l with
  | nil => simp at h
  | cons m r =>
    have e := intsD_map (l := m :: r)
    constructor
    · show (((((some _).bind intsD).bind tl1).map _).or _) = _
      rw [Option.bind_some, e]; rfl
    · show (((((some _).bind intsD).bind tl1).map _).or _) = _
      rw [Option.bind_some, e]; rfl
theorem b_mxI {l : List Int} (h : 0 < l.length) : bip .max1 [.vl (l.map D.int)] = some (.val (.int (mxL l))) ∧ bip .max1 [.tup (l.map D.int)] = some (.val (.int (mxL l))) := by
  cases l with
  | nil => simp at h
  | cons m r =>
    have e := intsD_map (l := m :: r)
    constructor
    · show (((((some _).bind intsD).bind tl1).map _).or _) = _
      rw [Option.bind_some, e]; rfl
    · show (((((some _).bind intsD).bind tl1).map _).or _) = _
      rw [Option.bind_some, e]; rfl
theorem mn_v {α : Type} {l : List α} {g : α → Int} (h : 0 < l.length) : bip .min1 [.vl (l.map fun a => D.int (g a))] = some (.val (.int (mnL (l.map g)))) := by
  have := (b_mnI (l := l.map g) (by rw [List.length_map]; exact h)).1
  rw [List.map_map] at this; exact this
theorem mn_t {α : Type} {l : List α} {g : α → Int} (h : 0 < l.length) : bip .min1 [.tup (l.map fun a => D.int (g a))] = some (.val (.int (mnL (l.map g)))) := by
  have := (b_mnI (l := l.map g) (by rw [List.length_map]; exact h)).2
  rw [List.map_map] at this; exact this
theorem mx_v {α : Type} {l : List α} {g : α → Int} (h : 0 < l.length) : bip .max1 [.vl (l.map fun a => D.int (g a))] = some (.val (.int (mxL (l.map g)))) := by
  have := (b_mxI (l := l.map g) (by rw [List.length_map]; exact h)).1
  rw [List.map_map] at this; exact this
theorem mx_t {α : Type} {l : List α} {g : α → Int} (h : 0 < l.length) : bip .max1 [.tup (l.map fun a => D.int (g a))] = some (.val (.int (mxL (l.map g)))) := by
  have := (b_mxI (l := l.map g) (by rw [List.length_map]; exact h)).2
  rw [List.map_map] at this; exact this
/-! ### truth values in a row -/
theorem isin_bf {l : List Bool} : isinD (.bl false) (l.map D.bl) = !l.all id := by
  induction l with
  | nil => rfl
  | cons b r ih =>
    show (eqD (.bl b) (.bl false) || isinD (.bl false) (r.map D.bl)) = _
    rw [ih]
    cases b <;> rfl
theorem all_t {l : List Bool} : bip .all [.tup (l.map D.bl)] = some (.val (.bl (l.all id))) := by
  show ((some _).bind blsD).map _ = _
  rw [Option.bind_some, blsD_map]; rfl
theorem any_t {l : List Bool} : bip .any [.tup (l.map D.bl)] = some (.val (.bl (l.any id))) := by
  show ((some _).bind blsD).map _ = _
  rw [Option.bind_some, blsD_map]; rfl
theorem fdN {a b : Nat} : (a : Int).fdiv (b : Int) = ((a / b : Nat) : Int) := by rw [Int.fdiv_eq_ediv_of_nonneg _ (by omega)]; exact (Int.natCast_ediv a b).symm
theorem fmN {a b : Nat} : (a : Int).fmod (b : Int) = ((a % b : Nat) : Int) := by rw [Int.fmod_eq_emod_of_nonneg _ (by omega)]; exact (Int.natCast_emod a b).symm
end PL

set_option exponentiation.threshold 100000
/-! Plain laws: fractions by fuel, sizes by themselves. -/
namespace PL
open Mini
section
variable {G : List D} {P : List Fn} {f g k : Nat}
theorem sm8 {x : Nat} (h : x < 2 ^ 64) : x < 2 ^ 8000 := Nat.lt_of_lt_of_le h (p2_le (Nat.le_of_ble_eq_true rfl))
theorem plus_n (hf : Makes G P f k) (h : P[g]? = some (f_plusF f)) {n : Nat} (hn : 5 ≤ n) {p q : Rat} (hp : Sz 4000 p) (hq : Sz 4000 q) : callF G P n g [.val (encQ p), .val (encQ q)] = some (.val (encQ (p + q)), [.val (encQ p), .val (encQ q)]) := by
  obtain ⟨n, rfl⟩ : ∃ m, n = m + 5 := ⟨n - 5, by omega⟩
  exact plus_ok hf h n p q hp hq
theorem minus_n (hf : Makes G P f k) (h : P[g]? = some (f_minusF f)) {n : Nat} (hn : 5 ≤ n) {p q : Rat} (hp : Sz 4000 p) (hq : Sz 4000 q) : callF G P n g [.val (encQ p), .val (encQ q)] = some (.val (encQ (p - q)), [.val (encQ p), .val (encQ q)]) := by
  obtain ⟨n, rfl⟩ : ∃ m, n = m + 5 := ⟨n - 5, by omega⟩
  exact minus_ok hf h n p q hp hq
theorem times_n (hf : Makes G P f k) (h : P[g]? = some (f_timesF f)) {n : Nat} (hn : 5 ≤ n) {p q : Rat} (hp : Sz 4000 p) (hq : Sz 4000 q) : callF G P n g [.val (encQ p), .val (encQ q)] = some (.val (encQ (p * q)), [.val (encQ p), .val (encQ q)]) := by
  obtain ⟨n, rfl⟩ : ∃ m, n = m + 5 := ⟨n - 5, by omega⟩
  exact times_ok hf h n p q hp hq
theorem div_n (hf : Makes G P f 0) (h : P[g]? = some (f_divF f)) {n : Nat} (hn : 5 ≤ n) {p q : Rat} (hp : Sz 4000 p) (hq : Sz 4000 q) (h0 : ¬ q = 0) : callF G P n g [.val (encQ p), .val (encQ q)] = some (.val (encQ (p / q)), [.val (encQ p), .val (encQ q)]) := by
  obtain ⟨n, rfl⟩ : ∃ m, n = m + 5 := ⟨n - 5, by omega⟩
  exact div_ok hf h n p q hp hq (.inr ⟨rfl, h0⟩)
theorem div_p (hf : Makes G P f k) (h : P[g]? = some (f_divF f)) {n : Nat} (hn : 5 ≤ n) {p q : Rat} (hp : Sz 4000 p) (hq : Sz 4000 q) (h0 : 0 < q) : callF G P n g [.val (encQ p), .val (encQ q)] = some (.val (encQ (p / q)), [.val (encQ p), .val (encQ q)]) := by
  obtain ⟨n, rfl⟩ : ∃ m, n = m + 5 := ⟨n - 5, by omega⟩
  exact div_ok hf h n p q hp hq (.inl h0)
theorem less_n (h : P[g]? = some f_lessQ) {n : Nat} (hn : 1 ≤ n) {p q : Rat} (hp : Sz 4000 p) (hq : Sz 4000 q) : callF G P n g [.val (encQ p), .val (encQ q)] = some (.val (.bl (decide (p < q))), [.val (encQ p), .val (encQ q)]) := by
  obtain ⟨n, rfl⟩ := fuel hn
  exact less_ok h n p q (hp.mono (by decide)) (hq.mono (by decide))
theorem frac_n (h : P[f]? = some f_fraction) {n : Nat} (hn : 1 ≤ n) {a d : Int} (hd : ¬ d = 0) (hs : d.natAbs < 2 ^ 8000) : callF G P n f [.val (.int a), .val (.int d)] = some (.val (encQ (Rat.divInt a d)), [.val (.int a), .val (.int d)]) := by
  obtain ⟨n, rfl⟩ := fuel hn
  exact fraction_ok h n a d hd (Nat.lt_of_lt_of_le hs (p2_le (by decide)))
theorem runFn_bs {Φ : Calls} {ns : Nat} {body : Ss} {bs bs' : List B} {r : RV} (h : runFn G Φ ⟨2, ns, [0, 1], body⟩ bs = some (r, bs')) : bs' = [.no, .no] := by
  unfold runFn at h
  split at h
  · obtain ⟨⟨o, e⟩, h1, h2⟩ := Option.bind_eq_some_iff.mp h
    cases o with
    | next => cases h2; rfl
    | brk => cases h2
    | ret r =>
      obtain ⟨⟨r', e'⟩, h3, h4⟩ := Option.map_eq_some_iff.mp h2
      cases h4; rfl
  · cases h
theorem ratioB_n (hf : Makes G P f k) (h : P[f]? = some (f_ratioB g)) {n : Nat} (hn : 4 ≤ n) {a d : Int} (hd : ¬ d = 0) (hs : d.natAbs < 2 ^ 8000) (hk : 0 < d ∨ k = 0) (ha : a.natAbs < 2 ^ 9000) : callF G P n f [.val (.int a), .val (.int d)] = some (.val (encQ (Rat.divInt a d)), [.no, .no]) := by
  obtain ⟨n, rfl⟩ : ∃ m, n = m + 4 := ⟨n - 4, by omega⟩
  obtain ⟨bs, h1, h2⟩ := hf n a d hd hs hk ha
  rw [h1]
  rw [show n + 4 = (n + 3) + 1 from rfl, callF_succ h] at h1
  rw [runFn_bs h1]
end
local macro_rules | `(tactic| wtm_at "w") => `(tactic| simp (disch := (first | omega | assumption | (refine tv_nn ?_; omega) | (refine tv_lt ?_; omega) | (refine tv_na ?_ ?_ <;> omega) | (simp only [List.length_map, List.length_range, List.length_cons, List.length_nil, List.length_append, List.length_set, List.length_reverse, List.length_take, List.length_drop]; omega))) only [true_implies, false_implies, implies_true, not_true_eq_false, ne_eq, Int.reduceEq, Int.reduceNeg, Int.reduceToNat, reduceCtorEq, Bool.not_true, Bool.not_false, Classical.not_not, Int.toNat_natCast, MS.rngList_len, Nat.zero_le, List.contains_nil, Bool.and_true, Bool.true_and, Bool.and_false, Bool.false_and, List.map_nil, List.append_nil, Nat.reduceLT, Nat.reduceLeDiff, Int.reduceLT, Int.reduceLE, Nat.reduceMul, Int.reduceMul, Int.reduceAdd, Int.reduceSub, List.length_cons, List.length_nil, Nat.reduceAdd, Nat.reduceSub, Nat.zero_add, List.getElem?_cons_zero, List.getElem?_cons_succ, List.contains_cons, Nat.reduceBEq, Bool.or_false, Bool.or_true, Bool.false_or, outB_0, outB_1, outB_2, outB_3, outB_4, outB_5, outB_6, outB_7, outB_8, eq_ss, eq_nn, X_non, X_bl, T_bl, X_int, X_str, X_var, T_var, X_gl, X_tup, X_lst, X_bin, X_neg, X_cmp, T_cmp, X_chain, T_chain, X_isN', T_isN, isNon_non, isNon_int, isNon_tup, isNon_str, isNon_bl, eqt, eqf, X_isB, T_isB, X_ite, X_idx, T_idx, X_slT, X_slF, X_slB, X_rev, X_call, T_call, X_bi, T_bi, X_pop, X_popAt, X_mt, T_mt, X_rng, T_bin, X_not, T_not, X_and, T_and, X_or, T_or, V_nil, V_cons, R_nil, R_cons, AV_nil, AV_cons, OV_nil, OV_cons, A_nil, A_cons, O_nil, O_cons, S_asg, S_asgT, S_par, S_setI, S_aug, S_app, S_revI, S_expr, S_ret, S_retN, S_ite, S_for, S_while, S_brk, S_pass, S_kill, W_some, W_none, W_bind, W_map, W_ite, get0, getS, List.set_cons_zero, List.set_cons_succ, fin_f, fin_t, tst_eq, blR_bl, pk_val, pk_own, pk_ref, fz_val, fz_own, fz_ref, bindR_val, bindR_own, bindR_ref, intD_int, tru_bl, tru_int, tru_vl, tru_tup, tru_fl, tru_non, pks, bindT, setAll, bindRs, unref, wipe, unlock, itR, callB, refs, argB, argB1, backB, back1, noRef, augC, add_i, sub_i, badd_i, badd_t, bsub_i, c_eq, c_ne, c_lt, c_le, c_gt, c_ge, c_in_t, c_in_l, c_nin_t, c_nin_l, dok_l, dok_r, dep_int, dep_bl, dep_non, dep_str, eq_ii, eq_bb, b_len_t, b_len_v, b_len_f, b_tup_t, b_tup_v, b_tup_f, b_lst_t, b_lst_v, b_lst_f, b_min2, b_max2, b_abs, b_int_i, b_int_b, b_isB, b_isI, b_isS, b_isT, b_sum_v, b_sum_t, b_any_v, b_all_v, popL, outR_val, outR_own, outR_ref, List.nodup_nil, List.nodup_cons, List.not_mem_nil, not_false_eq_true, and_self, if_true, Bool.false_eq_true, if_false, List.mem_cons, or_false, true_and, and_true, decide_eq_true_eq, beq_iff_eq, Option.map_some, Option.bind_some, List.length_map, List.nil_append, List.cons_append, List.replicate, X_compR, X_compIfR, lim_ok, lim_filter, r1', r2', mul_i, bmul_i, fdiv_i, bfdiv_i, pow_i, mulOk_l, mulOk_r, divOk_of, powOk_of, modS, add_tS, add_lS, mul_lS, iT, iV, iTi, iVi, it0, it1, it2, it3, it4, iv0, iv1, iv2, iv3, iv_p, it_p, idxQ0, idxQ1, pairQ1, dok_Q, eq_Q, isNon_Q, bindT_Q, isT_Q, len_Q, b_gcd, mt_bits, mtK_bits, castQ0, castQ1, iv2_i, iv3_i, max_cons, min_cons, idx_last, idx_lastT, setC_last, popI_eq, popC_ok, beq_self_eq_true, bne_self_eq_false, Int.reduceBEq, Int.reduceBNe, idx_hd, dok_ints, isin_nat, isin_int, ite_ints, appL_eq, appC_ok, setL_eq, setC_ok, setC_i, slT_t, slF_t, slT_v, slF_v, r3', tn1, tn2, ← List.map_take, ← List.map_drop, ints_f, sum_v, sum_t, any_v, all_v, if_and, if_or, Int.cast_ofNat_Int, Int.zero_add, Int.add_zero, Bool.and_eq_true, Bool.or_eq_true, Bool.not_eq_true, Bool.not_eq_eq_eq_not, decide_eq_false_iff_not, decide_true, decide_false, List.length_range, Bool.decide_eq_true, List.isEmpty_cons])
local macro_rules | `(tactic| wtm_at "wx") => `(tactic| simp (disch := (first | omega | assumption | (refine tv_nn ?_; omega) | (refine tv_lt ?_; omega) | (refine tv_na ?_ ?_ <;> omega) | (simp only [List.length_map, List.length_range, List.length_cons, List.length_nil, List.length_append, List.length_set, List.length_reverse, List.length_take, List.length_drop]; omega))) only [*, true_implies, false_implies, implies_true, not_true_eq_false, ne_eq, Int.reduceEq, Int.reduceNeg, Int.reduceToNat, reduceCtorEq, Bool.not_true, Bool.not_false, Classical.not_not, Int.toNat_natCast, MS.rngList_len, Nat.zero_le, List.contains_nil, Bool.and_true, Bool.true_and, Bool.and_false, Bool.false_and, List.map_nil, List.append_nil, Nat.reduceLT, Nat.reduceLeDiff, Int.reduceLT, Int.reduceLE, Nat.reduceMul, Int.reduceMul, Int.reduceAdd, Int.reduceSub, List.length_cons, List.length_nil, Nat.reduceAdd, Nat.reduceSub, Nat.zero_add, List.getElem?_cons_zero, List.getElem?_cons_succ, List.contains_cons, Nat.reduceBEq, Bool.or_false, Bool.or_true, Bool.false_or, outB_0, outB_1, outB_2, outB_3, outB_4, outB_5, outB_6, outB_7, outB_8, eq_ss, eq_nn, X_non, X_bl, T_bl, X_int, X_str, X_var, T_var, X_gl, X_tup, X_lst, X_bin, X_neg, X_cmp, T_cmp, X_chain, T_chain, X_isN', T_isN, isNon_non, isNon_int, isNon_tup, isNon_str, isNon_bl, eqt, eqf, X_isB, T_isB, X_ite, X_idx, T_idx, X_slT, X_slF, X_slB, X_rev, X_call, T_call, X_bi, T_bi, X_pop, X_popAt, X_mt, T_mt, X_rng, T_bin, X_not, T_not, X_and, T_and, X_or, T_or, V_nil, V_cons, R_nil, R_cons, AV_nil, AV_cons, OV_nil, OV_cons, A_nil, A_cons, O_nil, O_cons, S_asg, S_asgT, S_par, S_setI, S_aug, S_app, S_revI, S_expr, S_ret, S_retN, S_ite, S_for, S_while, S_brk, S_pass, S_kill, W_some, W_none, W_bind, W_map, W_ite, get0, getS, List.set_cons_zero, List.set_cons_succ, fin_f, fin_t, tst_eq, blR_bl, pk_val, pk_own, pk_ref, fz_val, fz_own, fz_ref, bindR_val, bindR_own, bindR_ref, intD_int, tru_bl, tru_int, tru_vl, tru_tup, tru_fl, tru_non, pks, bindT, setAll, bindRs, unref, wipe, unlock, itR, callB, refs, argB, argB1, backB, back1, noRef, augC, add_i, sub_i, badd_i, badd_t, bsub_i, c_eq, c_ne, c_lt, c_le, c_gt, c_ge, c_in_t, c_in_l, c_nin_t, c_nin_l, dok_l, dok_r, dep_int, dep_bl, dep_non, dep_str, eq_ii, eq_bb, b_len_t, b_len_v, b_len_f, b_tup_t, b_tup_v, b_tup_f, b_lst_t, b_lst_v, b_lst_f, b_min2, b_max2, b_abs, b_int_i, b_int_b, b_isB, b_isI, b_isS, b_isT, b_sum_v, b_sum_t, b_any_v, b_all_v, popL, outR_val, outR_own, outR_ref, List.nodup_nil, List.nodup_cons, List.not_mem_nil, not_false_eq_true, and_self, if_true, Bool.false_eq_true, if_false, List.mem_cons, or_false, true_and, and_true, decide_eq_true_eq, beq_iff_eq, Option.map_some, Option.bind_some, List.length_map, List.nil_append, List.cons_append, List.replicate, X_compR, X_compIfR, lim_ok, lim_filter, r1', r2', mul_i, bmul_i, fdiv_i, bfdiv_i, pow_i, mulOk_l, mulOk_r, divOk_of, powOk_of, modS, add_tS, add_lS, mul_lS, iT, iV, iTi, iVi, it0, it1, it2, it3, it4, iv0, iv1, iv2, iv3, iv_p, it_p, idxQ0, idxQ1, pairQ1, dok_Q, eq_Q, isNon_Q, bindT_Q, isT_Q, len_Q, b_gcd, mt_bits, mtK_bits, castQ0, castQ1, iv2_i, iv3_i, max_cons, min_cons, idx_last, idx_lastT, setC_last, popI_eq, popC_ok, beq_self_eq_true, bne_self_eq_false, Int.reduceBEq, Int.reduceBNe, idx_hd, dok_ints, isin_nat, isin_int, ite_ints, appL_eq, appC_ok, setL_eq, setC_ok, setC_i, slT_t, slF_t, slT_v, slF_v, r3', tn1, tn2, ← List.map_take, ← List.map_drop, ints_f, sum_v, sum_t, any_v, all_v, if_and, if_or, Int.cast_ofNat_Int, Int.zero_add, Int.add_zero, Bool.and_eq_true, Bool.or_eq_true, Bool.not_eq_true, Bool.not_eq_eq_eq_not, decide_eq_false_iff_not, decide_true, decide_false, List.length_range, Bool.decide_eq_true, List.isEmpty_cons])
local macro_rules | `(tactic| wtm_at "s1") => `(tactic| (first | refine W_st ?_ | refine W_sn ?_) <;> (try wtm_at "wx"))
local macro_rules | `(tactic| wtm_at "go") => `(tactic| ((try simp only [bindT, setAll, Option.bind_some, List.set_cons_zero, List.set_cons_succ]); (first | (wtm_at "s1") | (wtm_at "wx")); repeat (wtm_at "s1")))
local macro_rules | `(tactic| wtm_at "s1") => `(tactic| first | (refine W_sK fun _ _ => ?_; try wtm_at "wx") | (refine W_sn ?_; try wtm_at "wx") | (refine KK.nx (by assumption) ?_; try wtm_at "wx") | (refine KK.rt (by assumption) ?_; try wtm_at "wx") | (refine KK.bk (by assumption) ?_; try wtm_at "wx"))
local macro_rules | `(tactic| wtm_at "go") => `(tactic| ((try simp only [bindT, setAll, Option.bind_some, List.set_cons_zero, List.set_cons_succ]); (first | (wtm_at "s1") | (wtm_at "wx")); repeat (wtm_at "s1")))
local macro_rules | `(tactic| wtm_at "ws") => `(tactic| ((wtm_at "s1"); repeat (wtm_at "s1")))

section
variable {G : List D} {P : List Fn} {f g : Nat}
theorem fracL_n (hd : Divs G P f false) (h : P[g]? = some (f_fracL f)) {n : Nat} (hn : 4 ≤ n) {a d : Int} (d0 : 0 < d) (ds : d.natAbs < 2 ^ 8000) (ha : a.natAbs < 2 ^ 9000) : callF G P n g [.val (.int a), .val (.int d)] = some (.val (encQ (Rat.divInt a d)), [.val (.int a), .val (.int d)]) := by
  obtain ⟨n, rfl⟩ : ∃ m, n = m + 4 := ⟨n - 4, by omega⟩
  rw [callF_succ h]; refine W.get (run_ok rfl rfl ?_)
  have dz : d ≠ 0 := by omega
  obtain ⟨q1, q2⟩ := frQ a d dz
  obtain ⟨o1, o2⟩ := divOk_gcd (a := a) dz ds
  obtain ⟨bs, c, hb⟩ := hd (n + 2) a d ha (Nat.lt_of_lt_of_le ds (p2_le (by decide))) (by simp)
  obtain ⟨x, y, rfl⟩ := bs2 hb
  unfold encQ
  rw [q1, q2]
  have nn : ¬ (d < 0) := by omega
  rw [if_neg nn]
  clear q1 q2 hb ds ha
  wtm_at "go"
theorem ratioA_n (hd : Divs G P f false) (h : P[g]? = some (f_ratioA f)) {n : Nat} (hn : 4 ≤ n) {a d : Int} (dz : d ≠ 0) (ds : d.natAbs < 2 ^ 8000) (ha : a.natAbs < 2 ^ 9000) : callF G P n g [.val (.int a), .val (.int d)] = some (.val (encQ (Rat.divInt a d)), [.val (.int a), .val (.int d)]) := by
  obtain ⟨n, rfl⟩ : ∃ m, n = m + 4 := ⟨n - 4, by omega⟩
  rw [callF_succ h]; refine W.get (run_ok rfl rfl ?_)
  obtain ⟨q1, q2⟩ := frQ a d dz
  obtain ⟨o1, o2⟩ := divOk_gcd (a := a) dz ds
  obtain ⟨bs, c, hb⟩ := hd (n + 2) a d ha (Nat.lt_of_lt_of_le ds (p2_le (by decide))) (by simp)
  obtain ⟨x, y, rfl⟩ := bs2 hb
  unfold encQ
  rw [q1, q2]
  clear q1 q2 hb ds ha
  by_cases hn : d < 0
  · wtm_at "go"
  · wtm_at "go"
end
/-- a cell that is drawn -/
theorem cellA_q {G : List D} {P : List Fn} {f t n : Nat} {ns l : List Int} {Q : RV × List B → Prop} (h : P[f]? = some (f_cellAA t)) (ht : P[t]? = some f_take) (hn : 2 ≤ n) (hl : ns.length ≤ 63)
    (q : ∀ (v : Int) (l' : List Int), v.natAbs < 10 ^ 60 → Q (.val (.int v), [.val (.fl (ns.map D.int)), .cell (l'.map D.int)])) : W (callF G P n f [.val (.fl (ns.map D.int)), .cell (l.map D.int)]) Q := by
  obtain ⟨n, rfl⟩ : ∃ m, n = m + 2 := ⟨n - 2, by omega⟩
  obtain ⟨v, l', hv, e⟩ := cellA_ok ht h n ns l (by omega)
  exact ⟨_, e, q v l' hv⟩
theorem cutM {xs : List D} : cut xs none (some (-1)) = xs.dropLast := by
  show (xs.take (bnd xs.length (-1))).drop 0 = _
  rw [List.drop_zero, List.dropLast_eq_take]
  congr 1
  unfold bnd
  rw [if_neg (by decide)]
  omega
theorem slM_t {xs : List D} : slcD (.tup xs) none (some (-1)) = some (.val (.tup xs.dropLast)) := by
  show some (RV.val (.tup (cut xs none (some (-1))))) = _; rw [cutM]
theorem slM_v {xs : List D} : slcD (.vl xs) none (some (-1)) = some (.own xs.dropLast) := by
  show some (RV.own (cut xs none (some (-1)))) = _; rw [cutM]
/-- without its sign -/
def qabs (q : Rat) : Rat := if q < 0 then -q else q
/-! ### sizes -/
theorem Sz1 {b : Nat} (hb : 1 < b) : Sz b 1 := by
  have : (2 : Nat) ^ 1 < 2 ^ b := Nat.pow_lt_pow_right (by decide) hb
  exact ⟨by show (1 : Nat) < _; omega, by show (1 : Nat) < _; omega⟩
local macro_rules | `(tactic| wtm_at "sz0") => `(tactic| first | assumption | ((with_reducible refine @Sz_add ?a ?b _ _ ?h ?k); (case h => wtm_at "sz0"); (case k => wtm_at "sz0")) | ((with_reducible refine @Sz_sub ?a ?b _ _ ?h ?k); (case h => wtm_at "sz0"); (case k => wtm_at "sz0")) | ((with_reducible refine @Sz_mul ?a ?b _ _ ?h ?k); (case h => wtm_at "sz0"); (case k => wtm_at "sz0")) | ((with_reducible refine @Sz_neg ?a _ ?h); (case h => wtm_at "sz0")) | ((with_reducible refine Sz0 (b := 1) ?_); decide) | ((with_reducible refine Sz1 (b := 2) ?_); decide) | ((with_reducible refine Sz_int (b := 300) ?_ ?_) <;> first | decide | omega))
local macro_rules | `(tactic| wtm_at "sz") => `(tactic| first | assumption | (refine @Sz.mono ?a _ _ ?h ?l; (case h => wtm_at "sz0"); (case l => first | decide | omega)))
example {p q : Rat} {a : Int} (h : Sz 10 p) (h2 : Sz 20 q) (h3 : a.natAbs < 100) : Sz 4000 (p * q + (p - (a : Rat)) * 0) := by wtm_at "sz"
/-- a fraction with a denominator that is told -/
def Bq (m B : Nat) (q : Rat) : Prop := 0 < m ∧ ∃ N : Int, q = Rat.divInt N m ∧ N.natAbs ≤ B
theorem Bq.sz {m B b : Nat} {q : Rat} (h : Bq m B q) (h1 : m < 2 ^ b) (h2 : B < 2 ^ b) : Sz b q := by
  obtain ⟨h0, N, rfl, hN⟩ := h
  exact Sz_divInt (by omega) (by omega) (by omega)
theorem Bq.int {B : Nat} {n : Int} (h : n.natAbs ≤ B) : Bq 1 B (n : Rat) := ⟨by decide, n, by have := dA_int (a := n) (A := 1) (by decide); rw [Int.mul_one] at this; exact this, h⟩
theorem Bq.mono {m B C : Nat} {q : Rat} (h : Bq m B q) (h2 : B ≤ C) : Bq m C q := let ⟨a, N, b, c⟩ := h; ⟨a, N, b, Nat.le_trans c h2⟩
theorem Bq.up {m B : Nat} {q : Rat} (h : Bq m B q) (k : Nat) (hk : 0 < k) : Bq (m * k) (B * k) q := by
  obtain ⟨h0, N, rfl, hN⟩ := h
  refine ⟨Nat.mul_pos h0 hk, N * k, ?_, by rw [Int.natAbs_mul]; exact Nat.mul_le_mul hN (by omega)⟩
  rw [Int.natCast_mul, Rat.divInt_mul_right (by omega)]
theorem Bq.add {m B C : Nat} {p q : Rat} (h : Bq m B p) (h2 : Bq m C q) : Bq m (B + C) (p + q) := by
  obtain ⟨h0, N, rfl, hN⟩ := h
  obtain ⟨_, M, rfl, hM⟩ := h2
  exact ⟨h0, N + M, dA_add (by omega), by omega⟩
theorem Bq.sub {m B C : Nat} {p q : Rat} (h : Bq m B p) (h2 : Bq m C q) : Bq m (B + C) (p - q) := by
  obtain ⟨h0, N, rfl, hN⟩ := h
  obtain ⟨_, M, rfl, hM⟩ := h2
  exact ⟨h0, N - M, dA_sub (by omega), by omega⟩
theorem Bq.mul {m k B C : Nat} {p q : Rat} (h : Bq m B p) (h2 : Bq k C q) : Bq (m * k) (B * C) (p * q) := by
  obtain ⟨h0, N, rfl, hN⟩ := h
  obtain ⟨h1, M, rfl, hM⟩ := h2
  refine ⟨Nat.mul_pos h0 h1, N * M, ?_, by rw [Int.natAbs_mul]; exact Nat.mul_le_mul hN hM⟩
  rw [Int.natCast_mul, Rat.divInt_mul_divInt]
theorem num_neg {q : Rat} : (-q).num = -q.num := rfl
theorem den_neg {q : Rat} : (-q).den = q.den := rfl
theorem num_nn {q : Rat} : (q.num < 0) = (q < 0) := by
  apply propext
  rw [Rat.lt_iff]
  show q.num < 0 ↔ q.num * ((1 : Nat) : Int) < 0 * q.den
  omega
theorem abs_Q {q : Rat} : D.tup [.int (q.num.natAbs : Int), .int q.den] = encQ (qabs q) := by
  unfold qabs
  have h := @num_nn q
  split
  · rename_i c
    have : q.num < 0 := by rw [h]; exact c
    rw [← neg_Q]
    congr 4
    omega
  · rename_i c
    have : ¬ q.num < 0 := by rw [h]; exact c
    unfold encQ
    congr 4
    omega
theorem qabs_sq {q : Rat} : qabs q * qabs q = q * q := by
  unfold qabs; split <;> grind
theorem Sz_qabs {b : Nat} {q : Rat} (h : Sz b q) : Sz b (qabs q) := by
  unfold qabs; split
  · exact Sz_neg h
  · exact h
theorem Bq.qabs {m B : Nat} {q : Rat} (h : Bq m B q) : Bq m B (qabs q) := by
  unfold PL.qabs; split
  · obtain ⟨a, N, rfl, c⟩ := h
    exact ⟨a, -N, by rw [Rat.neg_divInt], by omega⟩
  · exact h
theorem half_Q {q : Rat} : Rat.divInt q.num (2 * q.den) = q / 2 := by
  rw [div_eq]
  show _ = Rat.divInt (q.num * ((1 : Nat) : Int)) (q.den * 2)
  rw [Int.mul_comm 2]
  simp
theorem mul_tS {x : D} {k : Int} (h1 : -1000 ≤ k) (h2 : k ≤ 1000) : binop .mul (.tup [x]) (.int k) = some (.val (.tup ((List.range k.toNat).map fun _ => x))) := by
  show (if _ then _ else _) = _
  rw [if_pos (by simp [h1, h2]), rep1]
theorem bT_nm {env : Env} {i : Nat} {d : D} : bindT env (.nm i) d = some (env.set i (.val d)) := rfl
theorem bT_tp {env : Env} {is : List Nat} {ds : List D} : bindT env (.tp is) (.tup ds) = setAll env is ds := rfl
end PL

/-! Plain laws: what comes behind is not looked at before its turn (simp does not enter a class argument). -/
namespace PL
open Mini
class Post (β : Type) where
  fn : β → Prop
def V {β : Type} (x : Option β) [p : Post β] : Prop := W x p.fn
section
variable {α β : Type} {x y : Option α} {a : α} {Q : α → Prop} {q : Post α} {r : Post β}
theorem V_to (h : @V α x ⟨Q⟩) : W x Q := h
theorem V_of (h : W x Q) : @V α x ⟨Q⟩ := h
theorem V_some : @V α (some a) ⟨Q⟩ ↔ Q a := W_some
theorem V_none : @V α none q ↔ False := W_none
theorem V_bind {f : α → Option β} : @V β (x.bind f) r ↔ @V α x ⟨fun a => @V β (f a) r⟩ := W_bind
theorem V_map {f : α → β} {R : β → Prop} : @V β (x.map f) ⟨R⟩ ↔ @V α x ⟨fun a => R (f a)⟩ := W_map
theorem V_ite {c : Prop} [Decidable c] : @V α (if c then x else y) q ↔ (c → @V α x q) ∧ (¬ c → @V α y q) := W_ite
end
end PL

set_option exponentiation.threshold 100000
namespace K30
open Mini
/-- fraction(n, d): 0 n 1 d 2 divisor -/
def f_fraction : Fn := ⟨2, 3, [],
(.cons (.asg 2 (.bi .gcd (.cons (.var 0) (.cons (.var 1) .nil))))
(.cons (.ite (.cmp .lt (.var 1) (.int 0))
(.cons (.asg 2 (.neg (.var 2)))
.nil)
.nil)
(.cons (.ret (.tup (.cons (.bin .fdiv (.var 0) (.var 2)) (.cons (.bin .fdiv (.var 1) (.var 2)) .nil))))
.nil)))⟩
/-- plus_of(one, other): 0 one 1 other -/
def f_plus_of : Fn := ⟨2, 2, [],
(.cons (.ret (.call 0 (.cons (.bin .add (.bin .mul (.idx (.var 0) (.int 0)) (.idx (.var 1) (.int 1))) (.bin .mul (.idx (.var 1) (.int 0)) (.idx (.var 0) (.int 1)))) (.cons (.bin .mul (.idx (.var 0) (.int 1)) (.idx (.var 1) (.int 1))) .nil))))
.nil)⟩
/-- minus_of(one, other): 0 one 1 other -/
def f_minus_of : Fn := ⟨2, 2, [],
(.cons (.ret (.call 0 (.cons (.bin .sub (.bin .mul (.idx (.var 0) (.int 0)) (.idx (.var 1) (.int 1))) (.bin .mul (.idx (.var 1) (.int 0)) (.idx (.var 0) (.int 1)))) (.cons (.bin .mul (.idx (.var 0) (.int 1)) (.idx (.var 1) (.int 1))) .nil))))
.nil)⟩
/-- times_of(one, other): 0 one 1 other -/
def f_times_of : Fn := ⟨2, 2, [],
(.cons (.ret (.call 0 (.cons (.bin .mul (.idx (.var 0) (.int 0)) (.idx (.var 1) (.int 0))) (.cons (.bin .mul (.idx (.var 0) (.int 1)) (.idx (.var 1) (.int 1))) .nil))))
.nil)⟩
/-- is_less(one, other): 0 one 1 other -/
def f_is_less : Fn := ⟨2, 2, [],
(.cons (.ret (.cmp .lt (.bin .mul (.idx (.var 0) (.int 0)) (.idx (.var 1) (.int 1))) (.bin .mul (.idx (.var 1) (.int 0)) (.idx (.var 0) (.int 1)))))
.nil)⟩
def b_gives_at_1 : Ss := (.cons (.asgT [3, 4] (.idx (.var 0) (.bin .sub (.var 2) (.int 1))))
(.cons (.asgT [5, 6] (.idx (.var 0) (.var 2)))
(.cons (.ite (.not (.call 4 (.cons (.tup (.cons (.var 5) (.cons (.int 1) .nil))) (.cons (.var 1) .nil))))
(.cons (.asg 7 (.call 2 (.cons (.var 1) (.cons (.tup (.cons (.var 3) (.cons (.int 1) .nil))) .nil))))
(.cons (.ret (.call 1 (.cons (.tup (.cons (.var 4) (.cons (.int 1) .nil))) (.cons (.call 3 (.cons (.var 7) (.cons (.call 0 (.cons (.bin .sub (.var 6) (.var 4)) (.cons (.bin .sub (.var 5) (.var 3)) .nil))) .nil))) .nil))))
.nil))
.nil)
(.cons (.kill [7])
(.cons (.kill [2, 3, 4, 5, 6, 7])
.nil)))))
/-- gives_at(rule, held): 0 rule 1 held 2 at 3 low 4 less 5 high 6 more 7 part -/
def f_gives_at : Fn := ⟨2, 8, [],
(.cons (.for (.nm 2) (.rng (.cons (.int 1) (.cons (.bi .len (.cons (.var 0) .nil)) .nil))) b_gives_at_1)
(.cons (.ret (.tup (.cons (.idx (.idx (.var 0) (.neg (.int 1))) (.int 1)) (.cons (.int 1) .nil))))
.nil))⟩
def b_hours_of_1 : Ss := (.cons (.asg 5 (.call 1 (.cons (.var 1) (.cons (.tup (.cons (.var 4) (.cons (.int 1) .nil))) .nil))))
(.cons (.asg 6 (.call 5 (.cons (.var 0) (.cons (.var 5) .nil))))
(.cons (.ite (.call 4 (.cons (.var 5) (.cons (.var 6) .nil)))
(.cons (.asg 6 (.var 5))
.nil)
.nil)
(.cons (.asg 1 (.call 2 (.cons (.var 5) (.cons (.var 6) .nil))))
(.cons (.app 3 (.tup (.cons (.var 1) (.cons (.var 6) .nil))))
(.cons (.kill [4, 5, 6])
.nil))))))
/-- hours_of(rule, held, ins): 0 rule 1 held 2 ins 3 found 4 own 5 now 6 goes -/
def f_hours_of : Fn := ⟨3, 7, [1],
(.cons (.asg 3 (.lst .nil))
(.cons (.for (.nm 4) (.var 2) b_hours_of_1)
(.cons (.ret (.var 3))
.nil)))⟩
/-- held_after(rule, held, ins): 0 rule 1 held 2 ins 3 now 4 goes -/
def f_held_after : Fn := ⟨3, 5, [],
(.cons (.ret (.bi .tuple (.cons (.comp [3, 4] (.var 3) (.tp [3, 4]) (.call 6 (.cons (.var 0) (.cons (.var 1) (.cons (.var 2) .nil))))) .nil)))
.nil)⟩
/-- given_in(rule, held, ins): 0 rule 1 held 2 ins 3 now 4 goes -/
def f_given_in : Fn := ⟨3, 5, [],
(.cons (.ret (.bi .tuple (.cons (.comp [3, 4] (.var 4) (.tp [3, 4]) (.call 6 (.cons (.var 0) (.cons (.var 1) (.cons (.var 2) .nil))))) .nil)))
.nil)⟩
def b_fills_by_1 : Ss := (.cons (.ite (.call 4 (.cons (.tup (.cons (.var 3) (.cons (.int 1) .nil))) (.cons (.idx (.var 4) (.var 5)) .nil)))
(.cons (.ret (.var 5))
.nil)
.nil)
(.cons (.kill [5])
.nil))
/-- fills_by(rule, held, ins, full): 0 rule 1 held 2 ins 3 full 4 after 5 hour -/
def f_fills_by : Fn := ⟨4, 6, [],
(.cons (.asg 4 (.call 7 (.cons (.var 0) (.cons (.var 1) (.cons (.var 2) .nil)))))
(.cons (.for (.nm 5) (.rng (.cons (.bi .len (.cons (.var 4) .nil)) .nil)) b_fills_by_1)
(.cons (.ret .non)
.nil)))⟩
def b_least_for_1 : Ss := (.cons (.asg 3 (.bi .max2 (.cons (.int 0) (.cons (.bin .sub (.bin .add (.var 3) (.var 1)) (.var 4)) .nil))))
(.cons (.asg 2 (.bi .max2 (.cons (.var 2) (.cons (.var 3) .nil))))
(.cons (.kill [4])
.nil)))
/-- least_for(ins, out): 0 ins 1 out 2 best 3 lack 4 own -/
def f_least_for : Fn := ⟨2, 5, [],
(.cons (.par [2, 3] (.cons (.int 0) (.cons (.int 0) .nil)))
(.cons (.for (.nm 4) (.var 0) b_least_for_1)
(.cons (.ret (.var 2))
.nil)))⟩
def b_even_out_1 : Ss := (.cons (.aug .add 4 (.idx (.var 0) (.var 5)))
(.cons (.asg 6 (.bin .fdiv (.bin .add (.var 1) (.var 4)) (.bin .add (.bin .sub (.var 5) (.var 3)) (.int 1))))
(.cons (.ite (.or (.cons (.isN (.var 2) true) (.cons (.cmp .lt (.var 6) (.var 2)) .nil)))
(.cons (.asg 2 (.var 6))
.nil)
.nil)
(.cons (.kill [5, 6])
.nil))))
def b_even_out_2 : Ss := (.cons (.asg 4 (.int 0))
(.cons (.kill [5, 6])
(.cons (.for (.nm 5) (.rng (.cons (.var 3) (.cons (.bi .len (.cons (.var 0) .nil)) .nil))) b_even_out_1)
(.cons (.kill [3, 4, 5, 6])
.nil))))
/-- even_out(ins, size): 0 ins 1 size 2 best 3 first 4 came 5 last 6 out -/
def f_even_out : Fn := ⟨2, 7, [],
(.cons (.asg 2 .non)
(.cons (.for (.nm 3) (.rng (.cons (.bi .len (.cons (.var 0) .nil)) .nil)) b_even_out_2)
(.cons (.ret (.var 2))
.nil)))⟩
/-- is_kept(ins, out, size): 0 ins 1 out 2 size -/
def f_is_kept : Fn := ⟨3, 3, [],
(.cons (.ret (.cmp .le (.call 10 (.cons (.var 0) (.cons (.var 1) .nil))) (.var 2)))
.nil)⟩
def b_l_law_draws_1 : Ss := (.cons (.asg 7 (.bin .mod (.var 6) (.bi .len (.cons (.var 2) .nil))))
(.cons (.ite (.and (.cons (.cmp .ge (.idx (.var 2) (.var 7)) (.bin .pow (.int 10) (.int 18))) (.cons (.cmp .gt (.idx (.var 4) (.var 7)) (.int 0)) .nil)))
(.cons (.app 5 (.bin .mod (.bi .int (.cons (.idx (.var 4) (.var 7)) .nil)) (.int 1000)))
(.cons (.setI 4 (.var 7) (.bin .fdiv (.idx (.var 4) (.var 7)) (.int 1000)))
.nil))
(.cons (.asg 8 (.bin .mod (.bi .int (.cons (.bin .add (.bin .add (.bin .mul (.idx (.var 2) (.var 7)) (.int 48271)) (.bin .mul (.var 6) (.int 69621))) (.int 11)) .nil)) (.int 2147483647)))
(.cons (.app 5 (.bin .mod (.bi .int (.cons (.bin .add (.bin .add (.bin .mul (.var 8) (.var 8)) (.bin .mul (.int 3) (.var 8))) (.var 6)) .nil)) (.int 1000003)))
.nil)))
(.cons (.kill [8])
(.cons (.kill [6, 7, 8])
.nil))))
/-- _law_draws(script, many): 0 script 1 many 2 cells 3 cell 4 rest 5 draws 6 k 7 at 8 once -/
def f_l_law_draws : Fn := ⟨2, 9, [],
(.cons (.asg 2 (.comp [3] (.bi .int (.cons (.var 3) .nil)) (.nm 3) (.var 0)))
(.cons (.ite (.cmp .eq (.bi .len (.cons (.var 2) .nil)) (.int 0))
(.cons (.app 2 (.int 0))
.nil)
.nil)
(.cons (.asg 4 (.bi .list (.cons (.var 2) .nil)))
(.cons (.asg 5 (.lst .nil))
(.cons (.for (.nm 6) (.rng (.cons (.var 1) .nil)) b_l_law_draws_1)
(.cons (.revI 5)
(.cons (.ret (.var 5))
.nil)))))))⟩
/-- _law_take(draws, many): 0 draws 1 many -/
def f_l_law_take : Fn := ⟨2, 2, [],
(.cons (.ite (.cmp .eq (.bi .len (.cons (.var 0) .nil)) (.int 0))
(.cons (.ret (.int 0))
.nil)
.nil)
(.cons (.ret (.bin .mod (.bi .int (.cons (.pop 0) .nil)) (.var 1)))
.nil))⟩
def b_l_law_same_1 : Ss := (.cons (.ite (.not (.call 15 (.cons (.idx (.var 0) (.var 2)) (.cons (.idx (.var 1) (.var 2)) .nil))))
(.cons (.ret (.bl false))
.nil)
.nil)
(.cons (.kill [2])
.nil))
/-- _law_same(actual, due): 0 actual 1 due 2 k -/
def f_l_law_same : Fn := ⟨2, 3, [],
(.cons (.ite (.bi .isBool (.cons (.var 1) .nil))
(.cons (.ret (.and (.cons (.bi .isBool (.cons (.var 0) .nil)) (.cons (.cmp .eq (.var 0) (.var 1)) .nil))))
.nil)
.nil)
(.cons (.ite (.bi .isInt (.cons (.var 1) .nil))
(.cons (.ret (.and (.cons (.bi .isInt (.cons (.var 0) .nil)) (.cons (.not (.bi .isBool (.cons (.var 0) .nil))) (.cons (.cmp .eq (.var 0) (.var 1)) .nil)))))
.nil)
.nil)
(.cons (.ite (.bi .isStr (.cons (.var 1) .nil))
(.cons (.ret (.and (.cons (.bi .isStr (.cons (.var 0) .nil)) (.cons (.cmp .eq (.var 0) (.var 1)) .nil))))
.nil)
.nil)
(.cons (.ite (.isN (.var 1) true)
(.cons (.ret (.isN (.var 0) true))
.nil)
.nil)
(.cons (.ite (.or (.cons (.not (.bi .isTuple (.cons (.var 0) .nil))) (.cons (.cmp .ne (.bi .len (.cons (.var 0) .nil)) (.bi .len (.cons (.var 1) .nil))) .nil)))
(.cons (.ret (.bl false))
.nil)
.nil)
(.cons (.for (.nm 2) (.rng (.cons (.bi .len (.cons (.var 1) .nil)) .nil)) b_l_law_same_1)
(.cons (.ret (.bl true))
.nil)))))))⟩
/-- _law_size(draws, script): 0 draws 1 script 2 kind 3 number -/
def f_l_law_size : Fn := ⟨2, 4, [],
(.cons (.asg 2 (.call 14 (.cons (.var 0) (.cons (.int 4) .nil))))
(.cons (.asg 3 (.call 14 (.cons (.var 0) (.cons (.int 1000) .nil))))
(.cons (.ite (.cmp .eq (.var 2) (.int 1))
(.cons (.asg 3 (.bin .add (.var 3) (.bin .mul (.bin .add (.int 1) (.call 14 (.cons (.var 0) (.cons (.int 1000) .nil)))) (.bin .pow (.int 10) (.int 15)))))
.nil)
.nil)
(.cons (.ite (.and (.cons (.cmp .eq (.var 2) (.int 2)) (.cons (.cmp .gt (.bi .len (.cons (.var 1) .nil)) (.int 0)) .nil)))
(.cons (.asg 3 (.bin .add (.var 3) (.bin .mod (.bi .int (.cons (.bi .abs (.cons (.bi .int (.cons (.idx (.var 1) (.call 14 (.cons (.var 0) (.cons (.bi .len (.cons (.var 1) .nil)) .nil)))) .nil)) .nil)) .nil)) (.bin .pow (.int 10) (.int 60)))))
.nil)
.nil)
(.cons (.ite (.cmp .eq (.var 2) (.int 3))
(.cons (.asg 3 (.bin .add (.bin .mul (.var 3) (.int 1000)) (.call 14 (.cons (.var 0) (.cons (.int 1000) .nil)))))
.nil)
.nil)
(.cons (.ret (.var 3))
.nil))))))⟩
def b_l_law_rule_1 : Ss := (.cons (.app 3 (.tup (.cons (.bin .add (.idx (.idx (.var 3) (.neg (.int 1))) (.int 0)) (.bin .mul (.var 2) (.bin .add (.int 1) (.call 14 (.cons (.var 0) (.cons (.int 12) .nil)))))) (.cons (.bin .add (.idx (.idx (.var 3) (.neg (.int 1))) (.int 1)) (.bin .mul (.var 2) (.call 14 (.cons (.var 0) (.cons (.int 9) .nil))))) .nil))))
(.cons (.kill [4])
.nil))
/-- _law_rule(draws, script): 0 draws 1 script 2 by 3 found 4 k -/
def f_l_law_rule : Fn := ⟨2, 5, [],
(.cons (.asg 2 (.idx (.lst (.cons (.int 1) (.cons (.int 1) (.cons (.bin .add (.int 1) (.bin .mod (.call 16 (.cons (.var 0) (.cons (.var 1) .nil))) (.bin .pow (.int 10) (.int 12)))) .nil)))) (.call 14 (.cons (.var 0) (.cons (.int 3) .nil)))))
(.cons (.asg 3 (.lst (.cons (.tup (.cons (.int 0) (.cons (.int 0) .nil))) .nil)))
(.cons (.for (.nm 4) (.rng (.cons (.call 14 (.cons (.var 0) (.cons (.int 5) .nil))) .nil)) b_l_law_rule_1)
(.cons (.ret (.tup (.cons (.bi .tuple (.cons (.var 3) .nil)) (.cons (.var 2) .nil))))
.nil))))⟩
/-- _law_ins(draws, many, by): 0 draws 1 many 2 by 3 k -/
def f_l_law_ins : Fn := ⟨3, 4, [],
(.cons (.ret (.bi .tuple (.cons (.comp [3] (.bin .mul (.var 2) (.call 14 (.cons (.var 0) (.cons (.idx (.lst (.cons (.int 3) (.cons (.int 15) .nil))) (.call 14 (.cons (.var 0) (.cons (.int 2) .nil)))) .nil)))) (.nm 3) (.rng (.cons (.var 1) .nil))) .nil)))
.nil)⟩
def b_l_law_lake_right_1 : Ss := (.cons (.asg 10 (.call 1 (.cons (.var 8) (.cons (.tup (.cons (.idx (.var 5) (.var 9)) (.cons (.int 1) .nil))) .nil))))
(.cons (.ite (.or (.cons (.not (.call 15 (.cons (.call 1 (.cons (.idx (.var 6) (.var 9)) (.cons (.idx (.var 7) (.var 9)) .nil))) (.cons (.var 10) .nil)))) (.cons (.call 4 (.cons (.idx (.var 6) (.var 9)) (.cons (.tup (.cons (.int 0) (.cons (.int 1) .nil))) .nil))) (.cons (.call 4 (.cons (.call 5 (.cons (.var 2) (.cons (.var 10) .nil))) (.cons (.idx (.var 7) (.var 9)) .nil))) (.cons (.call 4 (.cons (.idx (.var 7) (.var 9)) (.cons (.tup (.cons (.int 0) (.cons (.int 1) .nil))) .nil))) .nil)))))
(.cons (.ret (.bl false))
.nil)
.nil)
(.cons (.ite (.and (.cons (.cmp .ne (.idx (.var 7) (.var 9)) (.call 5 (.cons (.var 2) (.cons (.var 10) .nil)))) (.cons (.cmp .ne (.idx (.var 6) (.var 9)) (.tup (.cons (.int 0) (.cons (.int 1) .nil)))) .nil)))
(.cons (.ret (.bl false))
.nil)
.nil)
(.cons (.asg 8 (.idx (.var 6) (.var 9)))
(.cons (.kill [9, 10])
.nil)))))
/-- _law_lake_right(draws, script): 0 draws 1 script 2 rule 3 by 4 held 5 ins 6 after 7 goes 8 whole 9 hour 10 now 11 cut 12 there 13 calm 14 gentle 15 k 16 more 17 full 18 told 19 own -/
def f_l_law_lake_right : Fn := ⟨2, 20, [],
(.cons (.asgT [2, 3] (.call 17 (.cons (.var 0) (.cons (.var 1) .nil))))
(.cons (.asg 4 (.call 0 (.cons (.bin .mul (.var 3) (.call 14 (.cons (.var 0) (.cons (.int 120) .nil)))) (.cons (.bin .add (.int 1) (.call 14 (.cons (.var 0) (.cons (.int 3) .nil)))) .nil))))
(.cons (.asg 5 (.call 18 (.cons (.var 0) (.cons (.call 14 (.cons (.var 0) (.cons (.int 6) .nil))) (.cons (.var 3) .nil)))))
(.cons (.asg 6 (.call 7 (.cons (.var 2) (.cons (.var 4) (.cons (.var 5) .nil)))))
(.cons (.asg 7 (.call 8 (.cons (.var 2) (.cons (.var 4) (.cons (.var 5) .nil)))))
(.cons (.ite (.or (.cons (.not (.bi .isTuple (.cons (.var 6) .nil))) (.cons (.not (.bi .isTuple (.cons (.var 7) .nil))) (.cons (.cmp .ne (.bi .len (.cons (.var 6) .nil)) (.bi .len (.cons (.var 5) .nil))) (.cons (.cmp .ne (.bi .len (.cons (.var 7) .nil)) (.bi .len (.cons (.var 5) .nil))) .nil)))))
(.cons (.ret (.bl false))
.nil)
.nil)
(.cons (.asg 8 (.var 4))
(.cons (.for (.nm 9) (.rng (.cons (.bi .len (.cons (.var 5) .nil)) .nil)) b_l_law_lake_right_1)
(.cons (.asg 11 (.call 14 (.cons (.var 0) (.cons (.bin .add (.bi .len (.cons (.var 5) .nil)) (.int 1)) .nil))))
(.cons (.asg 12 (.bin .add (.tup (.cons (.var 4) .nil)) (.slT (.var 6) (.var 11))))
(.cons (.ite (.or (.cons (.not (.call 15 (.cons (.call 7 (.cons (.var 2) (.cons (.idx (.var 12) (.neg (.int 1))) (.cons (.slF (.var 5) (.var 11)) .nil)))) (.cons (.slF (.var 6) (.var 11)) .nil)))) (.cons (.not (.call 15 (.cons (.call 8 (.cons (.var 2) (.cons (.idx (.var 12) (.neg (.int 1))) (.cons (.slF (.var 5) (.var 11)) .nil)))) (.cons (.slF (.var 7) (.var 11)) .nil)))) .nil)))
(.cons (.ret (.bl false))
.nil)
.nil)
(.cons (.asg 13 (.call 7 (.cons (.var 2) (.cons (.var 4) (.cons (.tup (.cons (.int 0) (.cons (.int 0) (.cons (.int 0) .nil)))) .nil)))))
(.cons (.ite (.or (.cons (.call 4 (.cons (.var 4) (.cons (.idx (.var 13) (.int 0)) .nil))) (.cons (.call 4 (.cons (.idx (.var 13) (.int 0)) (.cons (.idx (.var 13) (.int 1)) .nil))) (.cons (.call 4 (.cons (.idx (.var 13) (.int 1)) (.cons (.idx (.var 13) (.int 2)) .nil))) (.cons (.not (.call 15 (.cons (.call 7 (.cons (.tup (.cons (.tup (.cons (.int 0) (.cons (.int 0) .nil))) .nil)) (.cons (.var 4) (.cons (.tup (.cons (.var 3) (.cons (.int 0) .nil))) .nil)))) (.cons (.bin .mul (.tup (.cons (.call 1 (.cons (.var 4) (.cons (.tup (.cons (.var 3) (.cons (.int 1) .nil))) .nil))) .nil)) (.int 2)) .nil)))) .nil)))))
(.cons (.ret (.bl false))
.nil)
.nil)
(.cons (.asg 14 (.cmp .eq (.bi .len (.cons (.compIf [15] (.var 15) (.nm 15) (.rng (.cons (.int 1) (.cons (.bi .len (.cons (.var 2) .nil)) .nil))) (.cmp .gt (.bin .sub (.idx (.idx (.var 2) (.var 15)) (.int 1)) (.idx (.idx (.var 2) (.bin .sub (.var 15) (.int 1))) (.int 1))) (.bin .sub (.idx (.idx (.var 2) (.var 15)) (.int 0)) (.idx (.idx (.var 2) (.bin .sub (.var 15) (.int 1))) (.int 0))))) .nil)) (.int 0)))
(.cons (.asg 16 (.call 7 (.cons (.var 2) (.cons (.call 1 (.cons (.var 4) (.cons (.call 0 (.cons (.var 3) (.cons (.int 2) .nil))) .nil))) (.cons (.var 5) .nil)))))
(.cons (.ite (.and (.cons (.var 14) (.cons (.cmp .gt (.bi .len (.cons (.compIf [9] (.var 9) (.nm 9) (.rng (.cons (.bi .len (.cons (.var 5) .nil)) .nil)) (.call 4 (.cons (.idx (.var 16) (.var 9)) (.cons (.idx (.var 6) (.var 9)) .nil)))) .nil)) (.int 0)) .nil)))
(.cons (.ret (.bl false))
.nil)
.nil)
(.cons (.asg 17 (.bin .mul (.var 3) (.call 14 (.cons (.var 0) (.cons (.int 60) .nil)))))
(.cons (.asg 18 (.call 9 (.cons (.var 2) (.cons (.var 4) (.cons (.var 5) (.cons (.var 17) .nil))))))
(.cons (.ite (.isN (.var 18) true)
(.cons (.ret (.cmp .eq (.bi .len (.cons (.compIf [19] (.var 19) (.nm 19) (.var 6) (.call 4 (.cons (.tup (.cons (.var 17) (.cons (.int 1) .nil))) (.cons (.var 19) .nil)))) .nil)) (.int 0)))
.nil)
.nil)
(.cons (.ret (.and (.cons (.call 4 (.cons (.tup (.cons (.var 17) (.cons (.int 1) .nil))) (.cons (.idx (.var 6) (.var 18)) .nil))) (.cons (.cmp .eq (.bi .len (.cons (.compIf [19] (.var 19) (.nm 19) (.slT (.var 6) (.var 18)) (.call 4 (.cons (.tup (.cons (.var 17) (.cons (.int 1) .nil))) (.cons (.var 19) .nil)))) .nil)) (.int 0)) .nil))))
.nil))))))))))))))))))))⟩
def b_l_law_played_1 : Ss := (.cons (.asg 3 (.bi .min2 (.cons (.var 2) (.cons (.bin .sub (.bin .add (.var 3) (.var 5)) (.var 1)) .nil))))
(.cons (.asg 4 (.bi .min2 (.cons (.var 4) (.cons (.var 3) .nil))))
(.cons (.kill [5])
.nil)))
/-- _law_played(ins, out, size): 0 ins 1 out 2 size 3 held 4 least 5 own -/
def f_l_law_played : Fn := ⟨3, 6, [],
(.cons (.asg 3 (.var 2))
(.cons (.asg 4 (.var 2))
(.cons (.for (.nm 5) (.var 0) b_l_law_played_1)
(.cons (.ret (.var 4))
.nil))))⟩
/-- _law_size_right(draws, script): 0 draws 1 script 2 by 3 ins 4 out 5 least 6 own 7 more 8 size 9 told 10 times 11 great -/
def f_l_law_size_right : Fn := ⟨2, 12, [],
(.cons (.asg 2 (.idx (.lst (.cons (.int 1) (.cons (.bin .add (.int 1) (.bin .mod (.call 16 (.cons (.var 0) (.cons (.var 1) .nil))) (.bin .pow (.int 10) (.int 20)))) .nil))) (.call 14 (.cons (.var 0) (.cons (.int 2) .nil)))))
(.cons (.asg 3 (.call 18 (.cons (.var 0) (.cons (.bin .add (.int 1) (.call 14 (.cons (.var 0) (.cons (.int 9) .nil)))) (.cons (.var 2) .nil)))))
(.cons (.asg 4 (.bin .mul (.var 2) (.call 14 (.cons (.var 0) (.cons (.int 16) .nil)))))
(.cons (.asg 5 (.call 10 (.cons (.var 3) (.cons (.var 4) .nil))))
(.cons (.ite (.or (.cons (.not (.bi .isInt (.cons (.var 5) .nil))) (.cons (.cmp .lt (.var 5) (.int 0)) (.cons (.cmp .lt (.call 20 (.cons (.var 3) (.cons (.var 4) (.cons (.var 5) .nil)))) (.int 0)) (.cons (.and (.cons (.cmp .gt (.var 5) (.int 0)) (.cons (.cmp .ge (.call 20 (.cons (.var 3) (.cons (.var 4) (.cons (.bin .sub (.var 5) (.int 1)) .nil)))) (.int 0)) .nil))) .nil)))))
(.cons (.ret (.bl false))
.nil)
.nil)
(.cons (.ite (.or (.cons (.cmp .gt (.var 5) (.bi .max2 (.cons (.int 0) (.cons (.bi .sum (.cons (.comp [6] (.bi .max2 (.cons (.int 0) (.cons (.bin .sub (.var 4) (.var 6)) .nil))) (.nm 6) (.var 3)) .nil)) .nil)))) (.cons (.not (.call 15 (.cons (.call 10 (.cons (.rev (.var 3)) (.cons (.var 4) .nil))) (.cons (.var 5) .nil)))) (.cons (.cmp .lt (.call 10 (.cons (.var 3) (.cons (.bin .add (.var 4) (.var 2)) .nil))) (.var 5)) .nil))))
(.cons (.ret (.bl false))
.nil)
.nil)
(.cons (.asg 7 (.call 10 (.cons (.bi .tuple (.cons (.comp [6] (.bin .add (.var 6) (.var 2)) (.nm 6) (.var 3)) .nil)) (.cons (.bin .add (.var 4) (.var 2)) .nil))))
(.cons (.ite (.or (.cons (.not (.call 15 (.cons (.var 7) (.cons (.var 5) .nil)))) (.cons (.cmp .gt (.call 10 (.cons (.bi .tuple (.cons (.comp [6] (.bin .add (.var 6) (.int 1)) (.nm 6) (.var 3)) .nil)) (.cons (.var 4) .nil))) (.var 5)) (.cons (.not (.call 15 (.cons (.call 10 (.cons (.bin .add (.var 3) (.var 3)) (.cons (.bi .min1 (.cons (.var 3) .nil)) .nil))) (.cons (.int 0) .nil)))) .nil))))
(.cons (.ret (.bl false))
.nil)
.nil)
(.cons (.asg 8 (.bin .mul (.var 2) (.call 14 (.cons (.var 0) (.cons (.int 40) .nil)))))
(.cons (.asg 9 (.call 11 (.cons (.var 3) (.cons (.var 8) .nil))))
(.cons (.ite (.or (.cons (.not (.bi .isInt (.cons (.var 9) .nil))) (.cons (.isB (.call 12 (.cons (.var 3) (.cons (.var 9) (.cons (.var 8) .nil)))) true false) (.cons (.isB (.call 12 (.cons (.var 3) (.cons (.bin .add (.var 9) (.int 1)) (.cons (.var 8) .nil)))) false false) (.cons (.cmp .gt (.call 10 (.cons (.var 3) (.cons (.var 9) .nil))) (.var 8)) .nil)))))
(.cons (.ret (.bl false))
.nil)
.nil)
(.cons (.asg 10 (.bin .add (.int 1) (.call 14 (.cons (.var 0) (.cons (.int 20) .nil)))))
(.cons (.asg 11 (.call 11 (.cons (.bi .tuple (.cons (.comp [6] (.bin .mul (.var 10) (.var 6)) (.nm 6) (.var 3)) .nil)) (.cons (.bin .mul (.var 10) (.var 8)) .nil))))
(.cons (.ite (.or (.cons (.cmp .ne (.bin .fdiv (.var 11) (.var 10)) (.var 9)) (.cons (.cmp .lt (.call 11 (.cons (.var 3) (.cons (.bin .add (.var 8) (.var 2)) .nil))) (.var 9)) (.cons (.cmp .ne (.call 11 (.cons (.var 3) (.cons (.int 0) .nil))) (.bi .min1 (.cons (.var 3) .nil))) (.cons (.cmp .lt (.var 9) (.bi .min1 (.cons (.var 3) .nil))) .nil)))))
(.cons (.ret (.bl false))
.nil)
.nil)
(.cons (.ret (.call 15 (.cons (.call 10 (.cons (.bi .tuple (.cons (.comp [6] (.bin .mul (.var 10) (.var 6)) (.nm 6) (.var 3)) .nil)) (.cons (.bin .mul (.var 10) (.var 4)) .nil))) (.cons (.bin .mul (.var 10) (.var 5)) .nil))))
.nil)))))))))))))))⟩
def b_law_1 : Ss := (.cons (.ite (.or (.cons (.not (.call 19 (.cons (.var 1) (.cons (.var 0) .nil)))) (.cons (.not (.call 21 (.cons (.var 1) (.cons (.var 0) .nil)))) .nil)))
(.cons (.ret (.bl false))
.nil)
.nil)
(.cons (.kill [2])
.nil))
def t_law : Ss := (.cons (.asg 3 (.tup (.cons (.tup (.cons (.int 0) (.cons (.int 0) .nil))) (.cons (.tup (.cons (.int 4) (.cons (.int 4) .nil))) (.cons (.tup (.cons (.int 10) (.cons (.int 4) .nil))) .nil)))))
(.cons (.ite (.or (.cons (.not (.call 15 (.cons (.call 7 (.cons (.var 3) (.cons (.tup (.cons (.int 0) (.cons (.int 1) .nil))) (.cons (.tup (.cons (.int 3) (.cons (.int 9) (.cons (.int 0) .nil)))) .nil)))) (.cons (.tup (.cons (.tup (.cons (.int 0) (.cons (.int 1) .nil))) (.cons (.tup (.cons (.int 5) (.cons (.int 1) .nil))) (.cons (.tup (.cons (.int 1) (.cons (.int 1) .nil))) .nil)))) .nil)))) (.cons (.not (.call 15 (.cons (.call 8 (.cons (.var 3) (.cons (.tup (.cons (.int 0) (.cons (.int 1) .nil))) (.cons (.tup (.cons (.int 3) (.cons (.int 9) (.cons (.int 0) .nil)))) .nil)))) (.cons (.tup (.cons (.tup (.cons (.int 3) (.cons (.int 1) .nil))) (.cons (.tup (.cons (.int 4) (.cons (.int 1) .nil))) (.cons (.tup (.cons (.int 4) (.cons (.int 1) .nil))) .nil)))) .nil)))) .nil)))
(.cons (.ret (.bl false))
.nil)
.nil)
(.cons (.ite (.not (.call 15 (.cons (.call 2 (.cons (.tup (.cons (.int 5) (.cons (.int 1) .nil))) (.cons (.call 3 (.cons (.tup (.cons (.int 1) (.cons (.int 2) .nil))) (.cons (.tup (.cons (.int 2) (.cons (.int 1) .nil))) .nil))) .nil))) (.cons (.tup (.cons (.int 4) (.cons (.int 1) .nil))) .nil))))
(.cons (.ret (.bl false))
.nil)
.nil)
(.cons (.ret (.and (.cons (.call 15 (.cons (.call 10 (.cons (.tup (.cons (.int 0) (.cons (.int 9) (.cons (.int 0) (.cons (.int 0) .nil))))) (.cons (.int 2) .nil))) (.cons (.int 4) .nil))) (.cons (.call 15 (.cons (.call 11 (.cons (.tup (.cons (.int 0) (.cons (.int 9) (.cons (.int 0) (.cons (.int 0) .nil))))) (.cons (.int 4) .nil))) (.cons (.int 2) .nil))) (.cons (.call 15 (.cons (.call 9 (.cons (.var 3) (.cons (.tup (.cons (.int 0) (.cons (.int 1) .nil))) (.cons (.tup (.cons (.int 3) (.cons (.int 9) (.cons (.int 0) .nil)))) (.cons (.int 4) .nil))))) (.cons (.int 1) .nil))) .nil)))))
.nil))))
/-- law(script): 0 script 1 draws 2 k 3 rule -/
def f_law : Fn := ⟨1, 4, [],
(.cons (.asg 1 (.call 13 (.cons (.var 0) (.cons (.int 420) .nil))))
(.cons (.for (.nm 2) (.rng (.cons (.int 4) .nil)) b_law_1)
t_law))⟩
def P : List Fn := [f_fraction, f_plus_of, f_minus_of, f_times_of, f_is_less, f_gives_at, f_hours_of, f_held_after, f_given_in, f_fills_by, f_least_for, f_even_out, f_is_kept, f_l_law_draws, f_l_law_take, f_l_law_same, f_l_law_size, f_l_law_rule, f_l_law_ins, f_l_law_lake_right, f_l_law_played, f_l_law_size_right, f_law]
def G : List D := []
end K30

namespace K30
open Mini PL
local macro_rules | `(tactic| wtm_at "sz0") => `(tactic| first | assumption | ((with_reducible refine @Sz_add ?a ?b _ _ ?h ?k); (case h => wtm_at "sz0"); (case k => wtm_at "sz0")) | ((with_reducible refine @Sz_sub ?a ?b _ _ ?h ?k); (case h => wtm_at "sz0"); (case k => wtm_at "sz0")) | ((with_reducible refine @Sz_mul ?a ?b _ _ ?h ?k); (case h => wtm_at "sz0"); (case k => wtm_at "sz0")) | ((with_reducible refine @Sz_neg ?a _ ?h); (case h => wtm_at "sz0")) | ((with_reducible refine @Sz_qabs ?a _ ?h); (case h => wtm_at "sz0")) | ((with_reducible refine Sz0 (b := 1) ?_); decide) | ((with_reducible refine Sz1 (b := 2) ?_); decide) | ((with_reducible refine Sz_int (b := 300) ?_ ?_) <;> first | decide | omega))
local macro_rules | `(tactic| wtm_at "sz") => `(tactic| first | assumption | (refine @Sz.mono ?a _ _ ?h ?l; (case h => wtm_at "sz0"); (case l => first | decide | omega)))
local macro_rules | `(tactic| wtm_at "fl") => `(tactic| first | exact Fl_int | exact Fl_bl | exact Fl_non | exact Fl_str | exact Fl_Q | assumption | (refine Fl_ite ?_ ?_ <;> wtm_at "fl") | (refine Fl_hd (fun _ _ => ?_) ?_ <;> wtm_at "fl") | (refine Fl_map (fun _ _ => ?_) ?_; (wtm_at "fl"); (first | omega | (simp only [List.length_map, List.length_range, List.length_cons, List.length_nil, List.length_append, List.length_set, List.length_reverse, List.length_take, List.length_drop, List.length_dropLast]; omega) | (simp only [*]; omega))) | (refine Fl_tupL ?_ ?_; (first | omega | (simp only [List.length_map, List.length_range, List.length_cons, List.length_nil, List.length_append, List.length_set, List.length_reverse, List.length_take, List.length_drop, List.length_dropLast]; omega) | (simp only [*]; omega)); wtm_at "fl") | exact FlL_nil | (refine FlL_cons ?_ ?_ <;> wtm_at "fl") | (refine FlL_app ?_ ?_ <;> wtm_at "fl") | (refine FlL_map (fun _ _ => ?_); wtm_at "fl"))
local macro_rules | `(tactic| wtm_at "w") => `(tactic| ((try (with_reducible refine V_to ?_)); simp (maxSteps := 2000000) (disch := (first | omega | assumption | (refine tv_nn ?_; omega) | (refine tv_lt ?_; omega) | (refine tv_na ?_ ?_ <;> omega) | (wtm_at "fl") | (wtm_at "sz") | (simp only [List.length_map, List.length_range, List.length_cons, List.length_nil, List.length_append, List.length_set, List.length_reverse, List.length_take, List.length_drop, List.length_dropLast]; omega))) only [true_implies, false_implies, implies_true, not_true_eq_false, ne_eq, Int.reduceEq, Int.reduceNeg, Int.reduceToNat, reduceCtorEq, Bool.not_true, Bool.not_false, Classical.not_not, Int.toNat_natCast, MS.rngList_len, Nat.zero_le, List.contains_nil, Bool.and_true, Bool.true_and, Bool.and_false, Bool.false_and, List.map_nil, List.append_nil, Nat.reduceLT, Nat.reduceLeDiff, Int.reduceLT, Int.reduceLE, Nat.reduceMul, Int.reduceMul, Int.reduceAdd, Int.reduceSub, List.length_cons, List.length_nil, Nat.reduceAdd, Nat.reduceSub, Nat.zero_add, List.getElem?_cons_zero, List.getElem?_cons_succ, List.contains_cons, Nat.reduceBEq, Bool.or_false, Bool.or_true, Bool.false_or, outB_0, outB_1, outB_2, outB_3, outB_4, outB_5, outB_6, outB_7, outB_8, eq_ss, eq_nn, X_non, X_bl, T_bl, X_int, X_str, X_var, T_var, X_gl, X_tup, X_lst, X_bin, X_neg, X_cmp, T_cmp, X_chain, T_chain, X_isN', T_isN, isNon_non, isNon_int, isNon_tup, isNon_str, isNon_bl, eqt, eqf, X_isB, T_isB, X_ite, X_idx, T_idx, X_slT, X_slF, X_slB, X_rev, X_call, T_call, X_bi, T_bi, X_pop, X_popAt, X_mt, T_mt, X_rng, T_bin, X_not, T_not, X_and, T_and, X_or, T_or, V_nil, V_cons, R_nil, R_cons, AV_nil, AV_cons, OV_nil, OV_cons, A_nil, A_cons, O_nil, O_cons, S_asg, S_asgT, S_par, S_setI, S_aug, S_app, S_revI, S_expr, S_ret, S_retN, S_ite, S_for, S_while, S_brk, S_pass, S_kill, V_some, V_none, V_bind, V_map, V_ite, get0, getS, List.set_cons_zero, List.set_cons_succ, fin_f, fin_t, tst_eq, blR_bl, pk_val, pk_own, pk_ref, fz_val, fz_own, fz_ref, bindR_val, bindR_own, bindR_ref, intD_int, tru_bl, tru_int, tru_vl, tru_tup, tru_fl, tru_non, pks, bT_nm, bT_tp, setAll, bindRs, unref, wipe, unlock, itR, callB, refs, argB, argB1, backB, back1, noRef, augC, add_i, sub_i, badd_i, badd_t, bsub_i, c_eq, c_ne, c_lt, c_le, c_gt, c_ge, c_in_t, c_in_l, c_nin_t, c_nin_l, dok_l, dok_r, dep_int, dep_bl, dep_non, dep_str, eq_ii, eq_bb, b_len_t, b_len_v, b_len_f, b_tup_t, b_tup_v, b_tup_f, b_lst_t, b_lst_v, b_lst_f, b_min2, b_max2, b_abs, b_int_i, b_int_b, b_isB, b_isI, b_isS, b_isT, b_sum_v, b_sum_t, b_any_v, b_all_v, popL, outR_val, outR_own, outR_ref, List.nodup_nil, List.nodup_cons, List.not_mem_nil, not_false_eq_true, and_self, if_true, Bool.false_eq_true, if_false, List.mem_cons, or_false, true_and, and_true, decide_eq_true_eq, beq_iff_eq, Option.map_some, Option.bind_some, List.length_map, List.nil_append, List.cons_append, List.replicate, X_compR, X_compIfR, lim_ok, lim_filter, r1', r2', mul_i, bmul_i, fdiv_i, bfdiv_i, pow_i, mulOk_l, mulOk_r, divOk_of, powOk_of, modS, add_tS, add_lS, mul_lS, mul_tS, slM_t, slM_v, ← List.map_dropLast,  iT, iV, iTi, iVi, it0, it1, it2, it3, it4, iv0, iv1, iv2, iv3, iv_p, it_p, idxQ0, idxQ1, pairQ1, dok_Q, eq_Q, isNon_Q, bindT_Q, isT_Q, len_Q, b_gcd, mt_bits, mtK_bits, castQ0, castQ1, abs_Q, rev_t, rev_v, mn_v, mn_t, mx_v, mx_t, isin_bf, all_t, any_t, ← List.map_reverse, eqD_s, dok_s, iv2_i, iv3_i, max_cons, min_cons, idx_last, idx_lastT, setC_last, popI_eq, popC_ok, beq_self_eq_true, bne_self_eq_false, Int.reduceBEq, Int.reduceBNe, idx_hd, dok_ints, isin_nat, isin_int, ite_ints, appL_eq, appC_ok, setL_eq, setC_ok, setC_i, slT_t, slF_t, slT_v, slF_v, r3', tn1, tn2, ← List.map_take, ← List.map_drop, ints_f, sum_v, sum_t, any_v, all_v, if_and, if_or, Int.cast_ofNat_Int, Int.zero_add, Int.add_zero, Bool.and_eq_true, Bool.or_eq_true, Bool.not_eq_true, Bool.not_eq_eq_eq_not, decide_eq_false_iff_not, decide_true, decide_false, List.length_range, Bool.decide_eq_true, List.isEmpty_cons]; (try (with_reducible refine V_of ?_))))
local macro_rules | `(tactic| wtm_at "wx") => `(tactic| ((try (with_reducible refine V_to ?_)); simp (maxSteps := 2000000) (disch := (first | omega | assumption | (refine tv_nn ?_; omega) | (refine tv_lt ?_; omega) | (refine tv_na ?_ ?_ <;> omega) | (wtm_at "fl") | (wtm_at "sz") | (simp only [List.length_map, List.length_range, List.length_cons, List.length_nil, List.length_append, List.length_set, List.length_reverse, List.length_take, List.length_drop, List.length_dropLast]; omega))) only [*, true_implies, false_implies, implies_true, not_true_eq_false, ne_eq, Int.reduceEq, Int.reduceNeg, Int.reduceToNat, reduceCtorEq, Bool.not_true, Bool.not_false, Classical.not_not, Int.toNat_natCast, MS.rngList_len, Nat.zero_le, List.contains_nil, Bool.and_true, Bool.true_and, Bool.and_false, Bool.false_and, List.map_nil, List.append_nil, Nat.reduceLT, Nat.reduceLeDiff, Int.reduceLT, Int.reduceLE, Nat.reduceMul, Int.reduceMul, Int.reduceAdd, Int.reduceSub, List.length_cons, List.length_nil, Nat.reduceAdd, Nat.reduceSub, Nat.zero_add, List.getElem?_cons_zero, List.getElem?_cons_succ, List.contains_cons, Nat.reduceBEq, Bool.or_false, Bool.or_true, Bool.false_or, outB_0, outB_1, outB_2, outB_3, outB_4, outB_5, outB_6, outB_7, outB_8, eq_ss, eq_nn, X_non, X_bl, T_bl, X_int, X_str, X_var, T_var, X_gl, X_tup, X_lst, X_bin, X_neg, X_cmp, T_cmp, X_chain, T_chain, X_isN', T_isN, isNon_non, isNon_int, isNon_tup, isNon_str, isNon_bl, eqt, eqf, X_isB, T_isB, X_ite, X_idx, T_idx, X_slT, X_slF, X_slB, X_rev, X_call, T_call, X_bi, T_bi, X_pop, X_popAt, X_mt, T_mt, X_rng, T_bin, X_not, T_not, X_and, T_and, X_or, T_or, V_nil, V_cons, R_nil, R_cons, AV_nil, AV_cons, OV_nil, OV_cons, A_nil, A_cons, O_nil, O_cons, S_asg, S_asgT, S_par, S_setI, S_aug, S_app, S_revI, S_expr, S_ret, S_retN, S_ite, S_for, S_while, S_brk, S_pass, S_kill, V_some, V_none, V_bind, V_map, V_ite, get0, getS, List.set_cons_zero, List.set_cons_succ, fin_f, fin_t, tst_eq, blR_bl, pk_val, pk_own, pk_ref, fz_val, fz_own, fz_ref, bindR_val, bindR_own, bindR_ref, intD_int, tru_bl, tru_int, tru_vl, tru_tup, tru_fl, tru_non, pks, bT_nm, bT_tp, setAll, bindRs, unref, wipe, unlock, itR, callB, refs, argB, argB1, backB, back1, noRef, augC, add_i, sub_i, badd_i, badd_t, bsub_i, c_eq, c_ne, c_lt, c_le, c_gt, c_ge, c_in_t, c_in_l, c_nin_t, c_nin_l, dok_l, dok_r, dep_int, dep_bl, dep_non, dep_str, eq_ii, eq_bb, b_len_t, b_len_v, b_len_f, b_tup_t, b_tup_v, b_tup_f, b_lst_t, b_lst_v, b_lst_f, b_min2, b_max2, b_abs, b_int_i, b_int_b, b_isB, b_isI, b_isS, b_isT, b_sum_v, b_sum_t, b_any_v, b_all_v, popL, outR_val, outR_own, outR_ref, List.nodup_nil, List.nodup_cons, List.not_mem_nil, not_false_eq_true, and_self, if_true, Bool.false_eq_true, if_false, List.mem_cons, or_false, true_and, and_true, decide_eq_true_eq, beq_iff_eq, Option.map_some, Option.bind_some, List.length_map, List.nil_append, List.cons_append, List.replicate, X_compR, X_compIfR, lim_ok, lim_filter, r1', r2', mul_i, bmul_i, fdiv_i, bfdiv_i, pow_i, mulOk_l, mulOk_r, divOk_of, powOk_of, modS, add_tS, add_lS, mul_lS, mul_tS, slM_t, slM_v, ← List.map_dropLast,  iT, iV, iTi, iVi, it0, it1, it2, it3, it4, iv0, iv1, iv2, iv3, iv_p, it_p, idxQ0, idxQ1, pairQ1, dok_Q, eq_Q, isNon_Q, bindT_Q, isT_Q, len_Q, b_gcd, mt_bits, mtK_bits, castQ0, castQ1, abs_Q, rev_t, rev_v, mn_v, mn_t, mx_v, mx_t, isin_bf, all_t, any_t, ← List.map_reverse, eqD_s, dok_s, iv2_i, iv3_i, max_cons, min_cons, idx_last, idx_lastT, setC_last, popI_eq, popC_ok, beq_self_eq_true, bne_self_eq_false, Int.reduceBEq, Int.reduceBNe, idx_hd, dok_ints, isin_nat, isin_int, ite_ints, appL_eq, appC_ok, setL_eq, setC_ok, setC_i, slT_t, slF_t, slT_v, slF_v, r3', tn1, tn2, ← List.map_take, ← List.map_drop, ints_f, sum_v, sum_t, any_v, all_v, if_and, if_or, Int.cast_ofNat_Int, Int.zero_add, Int.add_zero, Bool.and_eq_true, Bool.or_eq_true, Bool.not_eq_true, Bool.not_eq_eq_eq_not, decide_eq_false_iff_not, decide_true, decide_false, List.length_range, Bool.decide_eq_true, List.isEmpty_cons]; (try (with_reducible refine V_of ?_))))
local macro_rules | `(tactic| wtm_at "s1") => `(tactic| (first | refine W_st ?_ | refine W_sn ?_) <;> (try wtm_at "wx"))
local macro_rules | `(tactic| wtm_at "go") => `(tactic| ((try simp only [bT_nm, bT_tp, bindT_Q, setAll, Option.bind_some, List.set_cons_zero, List.set_cons_succ]); (first | (wtm_at "s1") | (wtm_at "wx")); repeat (wtm_at "s1")))
local macro_rules | `(tactic| wtm_at "s1") => `(tactic| first | (refine W_sK fun _ _ => ?_; try wtm_at "wx") | (refine W_sn ?_; try wtm_at "wx") | (refine KK.nx (by assumption) ?_; try wtm_at "wx") | (refine KK.rt (by assumption) ?_; try wtm_at "wx") | (refine KK.bk (by assumption) ?_; try wtm_at "wx"))
local macro_rules | `(tactic| wtm_at "go") => `(tactic| ((try simp only [bT_nm, bT_tp, bindT_Q, setAll, Option.bind_some, List.set_cons_zero, List.set_cons_succ]); (first | (wtm_at "s1") | (wtm_at "wx")); repeat (wtm_at "s1")))
local macro_rules | `(tactic| wtm_at "ws") => `(tactic| ((wtm_at "s1"); repeat (wtm_at "s1")))
local macro_rules | `(tactic| wtm_at "tk") => `(tactic| ((try (with_reducible refine V_of ?_)); (first | refine take_q (by rfl) (by omega) (by omega) ?_ | refine cellA_q (by rfl) (by rfl) (by omega) (by omega) ?_); intros; (try wtm_at "wx")))
local macro_rules | `(tactic| wtm_at "g") => `(tactic| ((try simp only [bT_nm, bT_tp, bindT_Q, setAll, Option.bind_some, List.set_cons_zero, List.set_cons_succ]); (first | (wtm_at "tk") | (wtm_at "s1") | (wtm_at "wx")); repeat (first | (wtm_at "tk") | (wtm_at "s1"))))
local macro_rules | `(tactic| wtm_at "gg") => `(tactic| ((try (with_reducible refine V_of ?_)); (try wtm_at "g"); (try (refine ⟨fun _ => ?_, fun _ => ?_⟩ <;> wtm_at "gg"))))
local macro_rules | `(tactic| wtm_at "ifs") => `(tactic| ((repeat' split) <;> omega))

abbrev nI (k : Nat) : D := .int k
abbrev tI (l : List Int) : D := .tup (l.map D.int)
abbrev tQ (l : List Rat) : D := .tup (l.map encQ)
abbrev pD (p : Int × Int) : D := .tup [.int p.1, .int p.2]
abbrev tR (l : List (Int × Int)) : D := .tup (l.map pD)
theorem mkF : Makes G P 0 0 := Makes.frac rfl
theorem cplus {n : Nat} (hn : 5 ≤ n) {p q : Rat} (hp : Sz 4000 p) (hq : Sz 4000 q) : callF G P n 1 [.val (encQ p), .val (encQ q)] = some (.val (encQ (p + q)), [.val (encQ p), .val (encQ q)]) := plus_n mkF rfl hn hp hq
theorem cminus {n : Nat} (hn : 5 ≤ n) {p q : Rat} (hp : Sz 4000 p) (hq : Sz 4000 q) : callF G P n 2 [.val (encQ p), .val (encQ q)] = some (.val (encQ (p - q)), [.val (encQ p), .val (encQ q)]) := minus_n mkF rfl hn hp hq
theorem ctimes {n : Nat} (hn : 5 ≤ n) {p q : Rat} (hp : Sz 4000 p) (hq : Sz 4000 q) : callF G P n 3 [.val (encQ p), .val (encQ q)] = some (.val (encQ (p * q)), [.val (encQ p), .val (encQ q)]) := times_n mkF rfl hn hp hq
theorem cless {n : Nat} (hn : 1 ≤ n) {p q : Rat} (hp : Sz 4000 p) (hq : Sz 4000 q) : callF G P n 4 [.val (encQ p), .val (encQ q)] = some (.val (.bl (decide (p < q))), [.val (encQ p), .val (encQ q)]) := less_n rfl hn hp hq
theorem cfrac {n : Nat} (hn : 1 ≤ n) {a d : Int} (hd : ¬ d = 0) (hs : d.natAbs < 2 ^ 8000) : callF G P n 0 [.val (.int a), .val (.int d)] = some (.val (encQ (Rat.divInt a d)), [.val (.int a), .val (.int d)]) := frac_n rfl hn hd hs
/-! ### the rule -/
structure Rl (rule : List (Int × Int)) : Prop where
  l0 : 0 < rule.length
  ln : rule.length ≤ 10
  s1 : ∀ k, k < rule.length → (gt rule k).1.natAbs ≤ 2 ^ 50 ∧ (gt rule k).2.natAbs ≤ 2 ^ 50
  gap : ∀ k, k + 1 < rule.length → ∃ b h m : Int, (gt rule (k + 1)).1 - (gt rule k).1 = b * h ∧ (gt rule (k + 1)).2 - (gt rule k).2 = b * m ∧ 0 < b ∧ 1 ≤ h ∧ h ≤ 12 ∧ 0 ≤ m ∧ m ≤ 8
def sl (rule : List (Int × Int)) (k : Nat) : Rat := Rat.divInt ((gt rule (k + 1)).2 - (gt rule k).2) ((gt rule (k + 1)).1 - (gt rule k).1)
def val (rule : List (Int × Int)) (x : Rat) (k : Nat) : Rat := ((gt rule k).2 : Rat) + (x - ((gt rule k).1 : Rat)) * sl rule k
def cnd (rule : List (Int × Int)) (x : Rat) (k : Nat) : Bool := !decide (((gt rule (k + 1)).1 : Rat) < x)
def gv (rule : List (Int × Int)) (x : Rat) : Rat := match ((List.range (rule.length - 1)).filter (cnd rule x)).head? with
  | some k => val rule x k
  | none => ((gt rule (rule.length - 1)).2 : Rat)
theorem gv_some {rule : List (Int × Int)} {x : Rat} {i : Nat} (h : ∀ j, j < i → cnd rule x j = false) (hi : i < rule.length - 1) (hp : cnd rule x i = true) : gv rule x = val rule x i := by
  unfold gv; rw [first_some h hi hp]
theorem gv_none {rule : List (Int × Int)} {x : Rat} (h : ∀ j, j < rule.length - 1 → cnd rule x j = false) : gv rule x = ((gt rule (rule.length - 1)).2 : Rat) := by
  unfold gv; rw [first_none h]; rfl
theorem dvd_27720 {h : Int} (h0 : 1 ≤ h) (h1 : h ≤ 12) : ∃ c : Nat, 0 < c ∧ h.toNat * c = 27720 ∧ c ≤ 27720 := by
  rcases (by omega : h = 1 ∨ h = 2 ∨ h = 3 ∨ h = 4 ∨ h = 5 ∨ h = 6 ∨ h = 7 ∨ h = 8 ∨ h = 9 ∨ h = 10 ∨ h = 11 ∨ h = 12) with rfl | rfl | rfl | rfl | rfl | rfl | rfl | rfl | rfl | rfl | rfl | rfl
  · exact ⟨27720, by decide, by decide, by decide⟩
  · exact ⟨13860, by decide, by decide, by decide⟩
  · exact ⟨9240, by decide, by decide, by decide⟩
  · exact ⟨6930, by decide, by decide, by decide⟩
  · exact ⟨5544, by decide, by decide, by decide⟩
  · exact ⟨4620, by decide, by decide, by decide⟩
  · exact ⟨3960, by decide, by decide, by decide⟩
  · exact ⟨3465, by decide, by decide, by decide⟩
  · exact ⟨3080, by decide, by decide, by decide⟩
  · exact ⟨2772, by decide, by decide, by decide⟩
  · exact ⟨2520, by decide, by decide, by decide⟩
  · exact ⟨2310, by decide, by decide, by decide⟩
theorem Rl.sl {rule : List (Int × Int)} (R : Rl rule) {k : Nat} (hk : k + 1 < rule.length) : Bq 27720 (27720 * 8) (sl rule k) ∧ ¬ (gt rule (k + 1)).1 - (gt rule k).1 = 0 := by
  obtain ⟨b, h, m, e1, e2, hb, h1, h2, m1, m2⟩ := R.gap k hk
  have hd : ¬ (gt rule (k + 1)).1 - (gt rule k).1 = 0 := by
    rw [e1]; exact Int.mul_ne_zero (by omega) (by omega)
  refine ⟨?_, hd⟩
  unfold K30.sl
  rw [e1, e2]
  have e3 : Rat.divInt (b * m) (b * h) = Rat.divInt m h := by
    rw [divInt_div, divInt_div, Rat.intCast_mul, Rat.intCast_mul]
    have b0 := castpos hb
    have c0 := castpos (show 0 < h by omega)
    generalize (b : Rat) = x at *
    generalize (h : Rat) = y at *
    generalize (m : Rat) = z
    have : ¬ x = 0 := by grind
    have : ¬ y = 0 := by grind
    grind
  rw [e3]
  obtain ⟨c, c0, c1, c2⟩ := dvd_27720 h1 h2
  have b1 : Bq h.toNat 8 (Rat.divInt m h) := ⟨by omega, m, by rw [Int.toNat_of_nonneg (by omega)], by omega⟩
  have := b1.up c c0
  rw [c1] at this
  exact this.mono (by omega)
theorem Rl.ssl {rule : List (Int × Int)} (R : Rl rule) {k : Nat} (hk : k + 1 < rule.length) : Sz 20 (K30.sl rule k) := (R.sl hk).1.sz (by decide) (by decide)
theorem Rl.si {rule : List (Int × Int)} (R : Rl rule) {k : Nat} (hk : k < rule.length) : Sz 51 ((gt rule k).1 : Rat) ∧ Sz 51 ((gt rule k).2 : Rat) := ⟨Sz_int (by decide) (by have := (R.s1 k hk).1; omega), Sz_int (by decide) (by have := (R.s1 k hk).2; omega)⟩
theorem gives_ok {n : Nat} (hn : 6 ≤ n) {rule : List (Int × Int)} (R : Rl rule) {x : Rat} (hx : Sz 400 x) : callF G P n 5 [.val (tR rule), .val (encQ x)] = some (.val (encQ (gv rule x)), [.val (tR rule), .val (encQ x)]) := by
  obtain ⟨n, rfl⟩ := fuel hn
  rw [callF_succ (fn := f_gives_at) rfl]; refine W.get (run_ok rfl rfl ?_)
  have l0 := R.l0
  have ln := R.ln
  have cp := @cplus
  have cm := @cminus
  have ct := @ctimes
  have cl := @cless
  have cf := @cfrac
  have kr : ((rule.length : Int) - 1).toNat = rule.length - 1 := by omega
  wtm_at "g"
  refine W_fR (fun i e => e = [.val (tR rule), .val (encQ x), .no, .no, .no, .no, .no, .no] ∧ ∀ j, j < i → cnd rule x j = false) ⟨rfl, fun j h => by omega⟩ ?_ ?_
  · rintro i e hi ⟨rfl, hj⟩
    have hi1 : i + 1 < rule.length := by omega
    have hi0 : i < rule.length := by omega
    have e2 : ((1 : Int) + (i : Int)).toNat = i + 1 := by omega
    have e3 : ((1 : Int) + (i : Int) - 1).toNat = i := by omega
    have ok := fun h => gv_some hj (show i < rule.length - 1 by omega) h
    have no : cnd rule x i = false → ∀ j, j < i + 1 → cnd rule x j = false := fun h j hj2 => by
      rcases Nat.lt_succ_iff_lt_or_eq.mp hj2 with h3 | rfl
      · exact hj j h3
      · exact h
    have ec : cnd rule x i = !decide (((gt rule (i + 1)).1 : Rat) < x) := rfl
    have ev : val rule x i = ((gt rule i).2 : Rat) + (x - ((gt rule i).1 : Rat)) * sl rule i := rfl
    have es : Rat.divInt ((gt rule (i + 1)).2 - (gt rule i).2) ((gt rule (i + 1)).1 - (gt rule i).1) = sl rule i := rfl
    have ss := R.ssl hi1
    have dz := (R.sl hi1).2
    have s0 := R.si hi0
    have s1 := R.si hi1
    obtain ⟨s01, s02⟩ := s0
    obtain ⟨s11, s12⟩ := s1
    have ds : ((gt rule (i + 1)).1 - (gt rule i).1).natAbs < 2 ^ 8000 := by
      have h1 := (R.s1 i hi0).1
      have h2 := (R.s1 (i + 1) hi1).1
      exact Nat.lt_of_lt_of_le (show _ < 2 ^ 52 by omega) (p2_le (by decide))
    clear hj R
    unfold b_gives_at_1
    by_cases h : ((gt rule (i + 1)).1 : Rat) < x
    · rw [decide_eq_true h] at ec
      have e9 := no ec
      clear ok no ec
      wtm_at "g"
      exact e9
    · rw [decide_eq_false h] at ec
      have e9 := ok ec
      rw [ev] at e9
      clear ok no ec ev
      generalize sl rule i = S at *
      wtm_at "g"
  · rintro e ⟨rfl, hj⟩
    have e9 := gv_none hj
    have s0 := (R.si (k := rule.length - 1) (by omega)).2
    clear hj
    wtm_at "g"
end K30

set_option exponentiation.threshold 100000
namespace K30
open Mini PL
local macro_rules | `(tactic| wtm_at "sz0") => `(tactic| first | assumption | ((with_reducible refine @Sz_add ?a ?b _ _ ?h ?k); (case h => wtm_at "sz0"); (case k => wtm_at "sz0")) | ((with_reducible refine @Sz_sub ?a ?b _ _ ?h ?k); (case h => wtm_at "sz0"); (case k => wtm_at "sz0")) | ((with_reducible refine @Sz_mul ?a ?b _ _ ?h ?k); (case h => wtm_at "sz0"); (case k => wtm_at "sz0")) | ((with_reducible refine @Sz_neg ?a _ ?h); (case h => wtm_at "sz0")) | ((with_reducible refine @Sz_qabs ?a _ ?h); (case h => wtm_at "sz0")) | ((with_reducible refine Sz0 (b := 1) ?_); decide) | ((with_reducible refine Sz1 (b := 2) ?_); decide) | ((with_reducible refine Sz_int (b := 300) ?_ ?_) <;> first | decide | omega))
local macro_rules | `(tactic| wtm_at "sz") => `(tactic| first | assumption | (refine @Sz.mono ?a _ _ ?h ?l; (case h => wtm_at "sz0"); (case l => first | decide | omega)))
local macro_rules | `(tactic| wtm_at "fl") => `(tactic| first | exact Fl_int | exact Fl_bl | exact Fl_non | exact Fl_str | exact Fl_Q | assumption | (refine Fl_ite ?_ ?_ <;> wtm_at "fl") | (refine Fl_hd (fun _ _ => ?_) ?_ <;> wtm_at "fl") | (refine Fl_map (fun _ _ => ?_) ?_; (wtm_at "fl"); (first | omega | (simp only [List.length_map, List.length_range, List.length_cons, List.length_nil, List.length_append, List.length_set, List.length_reverse, List.length_take, List.length_drop, List.length_dropLast]; omega) | (simp only [*]; omega))) | (refine Fl_tupL ?_ ?_; (first | omega | (simp only [List.length_map, List.length_range, List.length_cons, List.length_nil, List.length_append, List.length_set, List.length_reverse, List.length_take, List.length_drop, List.length_dropLast]; omega) | (simp only [*]; omega)); wtm_at "fl") | exact FlL_nil | (refine FlL_cons ?_ ?_ <;> wtm_at "fl") | (refine FlL_app ?_ ?_ <;> wtm_at "fl") | (refine FlL_map (fun _ _ => ?_); wtm_at "fl"))
local macro_rules | `(tactic| wtm_at "w") => `(tactic| ((try (with_reducible refine V_to ?_)); simp (maxSteps := 2000000) (disch := (first | omega | assumption | (refine tv_nn ?_; omega) | (refine tv_lt ?_; omega) | (refine tv_na ?_ ?_ <;> omega) | (wtm_at "fl") | (wtm_at "sz") | (simp only [List.length_map, List.length_range, List.length_cons, List.length_nil, List.length_append, List.length_set, List.length_reverse, List.length_take, List.length_drop, List.length_dropLast]; omega))) only [true_implies, false_implies, implies_true, not_true_eq_false, ne_eq, Int.reduceEq, Int.reduceNeg, Int.reduceToNat, reduceCtorEq, Bool.not_true, Bool.not_false, Classical.not_not, Int.toNat_natCast, MS.rngList_len, Nat.zero_le, List.contains_nil, Bool.and_true, Bool.true_and, Bool.and_false, Bool.false_and, List.map_nil, List.append_nil, Nat.reduceLT, Nat.reduceLeDiff, Int.reduceLT, Int.reduceLE, Nat.reduceMul, Int.reduceMul, Int.reduceAdd, Int.reduceSub, List.length_cons, List.length_nil, Nat.reduceAdd, Nat.reduceSub, Nat.zero_add, List.getElem?_cons_zero, List.getElem?_cons_succ, List.contains_cons, Nat.reduceBEq, Bool.or_false, Bool.or_true, Bool.false_or, outB_0, outB_1, outB_2, outB_3, outB_4, outB_5, outB_6, outB_7, outB_8, eq_ss, eq_nn, X_non, X_bl, T_bl, X_int, X_str, X_var, T_var, X_gl, X_tup, X_lst, X_bin, X_neg, X_cmp, T_cmp, X_chain, T_chain, X_isN', T_isN, isNon_non, isNon_int, isNon_tup, isNon_str, isNon_bl, eqt, eqf, X_isB, T_isB, X_ite, X_idx, T_idx, X_slT, X_slF, X_slB, X_rev, X_call, T_call, X_bi, T_bi, X_pop, X_popAt, X_mt, T_mt, X_rng, T_bin, X_not, T_not, X_and, T_and, X_or, T_or, V_nil, V_cons, R_nil, R_cons, AV_nil, AV_cons, OV_nil, OV_cons, A_nil, A_cons, O_nil, O_cons, S_asg, S_asgT, S_par, S_setI, S_aug, S_app, S_revI, S_expr, S_ret, S_retN, S_ite, S_for, S_while, S_brk, S_pass, S_kill, V_some, V_none, V_bind, V_map, V_ite, get0, getS, List.set_cons_zero, List.set_cons_succ, fin_f, fin_t, tst_eq, blR_bl, pk_val, pk_own, pk_ref, fz_val, fz_own, fz_ref, bindR_val, bindR_own, bindR_ref, intD_int, tru_bl, tru_int, tru_vl, tru_tup, tru_fl, tru_non, pks, bT_nm, bT_tp, setAll, bindRs, unref, wipe, unlock, itR, callB, refs, argB, argB1, backB, back1, noRef, augC, add_i, sub_i, badd_i, badd_t, bsub_i, c_eq, c_ne, c_lt, c_le, c_gt, c_ge, c_in_t, c_in_l, c_nin_t, c_nin_l, dok_l, dok_r, dep_int, dep_bl, dep_non, dep_str, eq_ii, eq_bb, b_len_t, b_len_v, b_len_f, b_tup_t, b_tup_v, b_tup_f, b_lst_t, b_lst_v, b_lst_f, b_min2, b_max2, b_abs, b_int_i, b_int_b, b_isB, b_isI, b_isS, b_isT, b_sum_v, b_sum_t, b_any_v, b_all_v, popL, outR_val, outR_own, outR_ref, List.nodup_nil, List.nodup_cons, List.not_mem_nil, not_false_eq_true, and_self, if_true, Bool.false_eq_true, if_false, List.mem_cons, or_false, true_and, and_true, decide_eq_true_eq, beq_iff_eq, Option.map_some, Option.bind_some, List.length_map, List.nil_append, List.cons_append, List.replicate, X_compR, X_compIfR, lim_ok, lim_filter, r1', r2', mul_i, bmul_i, fdiv_i, bfdiv_i, pow_i, mulOk_l, mulOk_r, divOk_of, powOk_of, modS, add_tS, add_lS, mul_lS, mul_tS, slM_t, slM_v, ← List.map_dropLast,  iT, iV, iTi, iVi, it0, it1, it2, it3, it4, iv0, iv1, iv2, iv3, iv_p, it_p, idxQ0, idxQ1, pairQ1, dok_Q, eq_Q, isNon_Q, bindT_Q, isT_Q, len_Q, b_gcd, mt_bits, mtK_bits, castQ0, castQ1, abs_Q, rev_t, rev_v, mn_v, mn_t, mx_v, mx_t, isin_bf, all_t, any_t, ← List.map_reverse, eqD_s, dok_s, iv2_i, iv3_i, max_cons, min_cons, idx_last, idx_lastT, setC_last, popI_eq, popC_ok, beq_self_eq_true, bne_self_eq_false, Int.reduceBEq, Int.reduceBNe, idx_hd, dok_ints, isin_nat, isin_int, ite_ints, appL_eq, appC_ok, setL_eq, setC_ok, setC_i, slT_t, slF_t, slT_v, slF_v, r3', tn1, tn2, ← List.map_take, ← List.map_drop, ints_f, sum_v, sum_t, any_v, all_v, if_and, if_or, Int.cast_ofNat_Int, Int.zero_add, Int.add_zero, Bool.and_eq_true, Bool.or_eq_true, Bool.not_eq_true, Bool.not_eq_eq_eq_not, decide_eq_false_iff_not, decide_true, decide_false, List.length_range, Bool.decide_eq_true, List.isEmpty_cons]; (try (with_reducible refine V_of ?_))))
local macro_rules | `(tactic| wtm_at "wx") => `(tactic| ((try (with_reducible refine V_to ?_)); simp (maxSteps := 2000000) (disch := (first | omega | assumption | (refine tv_nn ?_; omega) | (refine tv_lt ?_; omega) | (refine tv_na ?_ ?_ <;> omega) | (wtm_at "fl") | (wtm_at "sz") | (simp only [List.length_map, List.length_range, List.length_cons, List.length_nil, List.length_append, List.length_set, List.length_reverse, List.length_take, List.length_drop, List.length_dropLast]; omega))) only [*, true_implies, false_implies, implies_true, not_true_eq_false, ne_eq, Int.reduceEq, Int.reduceNeg, Int.reduceToNat, reduceCtorEq, Bool.not_true, Bool.not_false, Classical.not_not, Int.toNat_natCast, MS.rngList_len, Nat.zero_le, List.contains_nil, Bool.and_true, Bool.true_and, Bool.and_false, Bool.false_and, List.map_nil, List.append_nil, Nat.reduceLT, Nat.reduceLeDiff, Int.reduceLT, Int.reduceLE, Nat.reduceMul, Int.reduceMul, Int.reduceAdd, Int.reduceSub, List.length_cons, List.length_nil, Nat.reduceAdd, Nat.reduceSub, Nat.zero_add, List.getElem?_cons_zero, List.getElem?_cons_succ, List.contains_cons, Nat.reduceBEq, Bool.or_false, Bool.or_true, Bool.false_or, outB_0, outB_1, outB_2, outB_3, outB_4, outB_5, outB_6, outB_7, outB_8, eq_ss, eq_nn, X_non, X_bl, T_bl, X_int, X_str, X_var, T_var, X_gl, X_tup, X_lst, X_bin, X_neg, X_cmp, T_cmp, X_chain, T_chain, X_isN', T_isN, isNon_non, isNon_int, isNon_tup, isNon_str, isNon_bl, eqt, eqf, X_isB, T_isB, X_ite, X_idx, T_idx, X_slT, X_slF, X_slB, X_rev, X_call, T_call, X_bi, T_bi, X_pop, X_popAt, X_mt, T_mt, X_rng, T_bin, X_not, T_not, X_and, T_and, X_or, T_or, V_nil, V_cons, R_nil, R_cons, AV_nil, AV_cons, OV_nil, OV_cons, A_nil, A_cons, O_nil, O_cons, S_asg, S_asgT, S_par, S_setI, S_aug, S_app, S_revI, S_expr, S_ret, S_retN, S_ite, S_for, S_while, S_brk, S_pass, S_kill, V_some, V_none, V_bind, V_map, V_ite, get0, getS, List.set_cons_zero, List.set_cons_succ, fin_f, fin_t, tst_eq, blR_bl, pk_val, pk_own, pk_ref, fz_val, fz_own, fz_ref, bindR_val, bindR_own, bindR_ref, intD_int, tru_bl, tru_int, tru_vl, tru_tup, tru_fl, tru_non, pks, bT_nm, bT_tp, setAll, bindRs, unref, wipe, unlock, itR, callB, refs, argB, argB1, backB, back1, noRef, augC, add_i, sub_i, badd_i, badd_t, bsub_i, c_eq, c_ne, c_lt, c_le, c_gt, c_ge, c_in_t, c_in_l, c_nin_t, c_nin_l, dok_l, dok_r, dep_int, dep_bl, dep_non, dep_str, eq_ii, eq_bb, b_len_t, b_len_v, b_len_f, b_tup_t, b_tup_v, b_tup_f, b_lst_t, b_lst_v, b_lst_f, b_min2, b_max2, b_abs, b_int_i, b_int_b, b_isB, b_isI, b_isS, b_isT, b_sum_v, b_sum_t, b_any_v, b_all_v, popL, outR_val, outR_own, outR_ref, List.nodup_nil, List.nodup_cons, List.not_mem_nil, not_false_eq_true, and_self, if_true, Bool.false_eq_true, if_false, List.mem_cons, or_false, true_and, and_true, decide_eq_true_eq, beq_iff_eq, Option.map_some, Option.bind_some, List.length_map, List.nil_append, List.cons_append, List.replicate, X_compR, X_compIfR, lim_ok, lim_filter, r1', r2', mul_i, bmul_i, fdiv_i, bfdiv_i, pow_i, mulOk_l, mulOk_r, divOk_of, powOk_of, modS, add_tS, add_lS, mul_lS, mul_tS, slM_t, slM_v, ← List.map_dropLast,  iT, iV, iTi, iVi, it0, it1, it2, it3, it4, iv0, iv1, iv2, iv3, iv_p, it_p, idxQ0, idxQ1, pairQ1, dok_Q, eq_Q, isNon_Q, bindT_Q, isT_Q, len_Q, b_gcd, mt_bits, mtK_bits, castQ0, castQ1, abs_Q, rev_t, rev_v, mn_v, mn_t, mx_v, mx_t, isin_bf, all_t, any_t, ← List.map_reverse, eqD_s, dok_s, iv2_i, iv3_i, max_cons, min_cons, idx_last, idx_lastT, setC_last, popI_eq, popC_ok, beq_self_eq_true, bne_self_eq_false, Int.reduceBEq, Int.reduceBNe, idx_hd, dok_ints, isin_nat, isin_int, ite_ints, appL_eq, appC_ok, setL_eq, setC_ok, setC_i, slT_t, slF_t, slT_v, slF_v, r3', tn1, tn2, ← List.map_take, ← List.map_drop, ints_f, sum_v, sum_t, any_v, all_v, if_and, if_or, Int.cast_ofNat_Int, Int.zero_add, Int.add_zero, Bool.and_eq_true, Bool.or_eq_true, Bool.not_eq_true, Bool.not_eq_eq_eq_not, decide_eq_false_iff_not, decide_true, decide_false, List.length_range, Bool.decide_eq_true, List.isEmpty_cons]; (try (with_reducible refine V_of ?_))))
local macro_rules | `(tactic| wtm_at "s1") => `(tactic| (first | refine W_st ?_ | refine W_sn ?_) <;> (try wtm_at "wx"))
local macro_rules | `(tactic| wtm_at "go") => `(tactic| ((try simp only [bT_nm, bT_tp, bindT_Q, setAll, Option.bind_some, List.set_cons_zero, List.set_cons_succ]); (first | (wtm_at "s1") | (wtm_at "wx")); repeat (wtm_at "s1")))
local macro_rules | `(tactic| wtm_at "s1") => `(tactic| first | (refine W_sK fun _ _ => ?_; try wtm_at "wx") | (refine W_sn ?_; try wtm_at "wx") | (refine KK.nx (by assumption) ?_; try wtm_at "wx") | (refine KK.rt (by assumption) ?_; try wtm_at "wx") | (refine KK.bk (by assumption) ?_; try wtm_at "wx"))
local macro_rules | `(tactic| wtm_at "go") => `(tactic| ((try simp only [bT_nm, bT_tp, bindT_Q, setAll, Option.bind_some, List.set_cons_zero, List.set_cons_succ]); (first | (wtm_at "s1") | (wtm_at "wx")); repeat (wtm_at "s1")))
local macro_rules | `(tactic| wtm_at "ws") => `(tactic| ((wtm_at "s1"); repeat (wtm_at "s1")))
local macro_rules | `(tactic| wtm_at "tk") => `(tactic| ((try (with_reducible refine V_of ?_)); (first | refine take_q (by rfl) (by omega) (by omega) ?_ | refine cellA_q (by rfl) (by rfl) (by omega) (by omega) ?_); intros; (try wtm_at "wx")))
local macro_rules | `(tactic| wtm_at "g") => `(tactic| ((try simp only [bT_nm, bT_tp, bindT_Q, setAll, Option.bind_some, List.set_cons_zero, List.set_cons_succ]); (first | (wtm_at "tk") | (wtm_at "s1") | (wtm_at "wx")); repeat (first | (wtm_at "tk") | (wtm_at "s1"))))
local macro_rules | `(tactic| wtm_at "gg") => `(tactic| ((try (with_reducible refine V_of ?_)); (try wtm_at "g"); (try (refine ⟨fun _ => ?_, fun _ => ?_⟩ <;> wtm_at "gg"))))
local macro_rules | `(tactic| wtm_at "ifs") => `(tactic| ((repeat' split) <;> omega))

/-! ### hour by hour -/
def goes (rule : List (Int × Int)) (x : Rat) (own : Int) : Rat := if x + (own : Rat) < gv rule (x + (own : Rat)) then x + (own : Rat) else gv rule (x + (own : Rat))
def hs (rule : List (Int × Int)) (x : Rat) (ins : List Int) : Nat → Rat
  | 0 => x
  | i + 1 => hs rule x ins i + ((gt ins i : Int) : Rat) - goes rule (hs rule x ins i) (gt ins i)
def gs (rule : List (Int × Int)) (x : Rat) (ins : List Int) (i : Nat) : Rat := goes rule (hs rule x ins i) (gt ins i)
theorem gv_B {rule : List (Int × Int)} (R : Rl rule) {x : Rat} {D N : Nat} (hx : Bq D N x) (hN : 2 ^ 50 * D ≤ N) : Bq (D * 27720) (2 ^ 20 * N) (gv rule x) := by
  have d0 := hx.1
  have int : ∀ a : Int, a.natAbs ≤ 2 ^ 50 → Bq D (2 ^ 50 * D) (a : Rat) := fun a h => by
    have := (Bq.int h).up D d0
    rw [Nat.one_mul] at this; exact this
  have last : Bq (D * 27720) (2 ^ 20 * N) ((gt rule (rule.length - 1)).2 : Rat) := by
    refine ((int _ (R.s1 _ (by have := R.l0; omega)).2).up 27720 (by decide)).mono ?_
    omega
  unfold gv
  split
  · rename_i k hk
    have hm : k ∈ (List.range (rule.length - 1)).filter (cnd rule x) := List.mem_of_mem_head? hk
    have hk1 : k < rule.length - 1 := List.mem_range.mp (List.mem_filter.mp hm).1
    have h1 := R.s1 k (by omega)
    have a1 := ((hx.sub (int _ h1.1)).mul (R.sl (show k + 1 < rule.length by omega)).1)
    have a2 := (int _ h1.2).up 27720 (by decide)
    exact (a2.add a1).mono (by omega)
  · exact last
structure HB (D N : Nat) (x : Rat) : Prop where
  b : Bq D N x
  k : 2 ^ 51 * D ≤ N
theorem HB.step {rule : List (Int × Int)} (R : Rl rule) {x : Rat} {D N : Nat} (H : HB D N x) {own : Int} (ho : own.natAbs ≤ 2 ^ 50) : Bq D (N + N) (x + (own : Rat)) ∧ Bq (D * 27720) (2 ^ 22 * N) (gv rule (x + (own : Rat))) ∧ Bq (D * 27720) (2 ^ 22 * N) (goes rule x own) ∧ HB (D * 27720) (2 ^ 24 * N) (x + (own : Rat) - goes rule x own) := by
  have d0 := H.b.1
  have hk := H.k
  have oB : Bq D (2 ^ 50 * D) (own : Rat) := by
    have := (Bq.int ho).up D d0
    rw [Nat.one_mul] at this; exact this
  have n1 : Bq D (N + N) (x + (own : Rat)) := (H.b.add oB).mono (by omega)
  have n2 := (gv_B R n1 (by omega)).mono (show 2 ^ 20 * (N + N) ≤ 2 ^ 22 * N by omega)
  have n3 : Bq (D * 27720) (2 ^ 22 * N) (x + (own : Rat)) := (n1.up 27720 (by decide)).mono (by omega)
  have n4 : Bq (D * 27720) (2 ^ 22 * N) (goes rule x own) := by
    unfold goes
    split
    · exact n3
    · exact n2
  exact ⟨n1, n2, n4, ⟨(n3.sub n4).mono (by omega), by omega⟩⟩
theorem hs_B {rule : List (Int × Int)} (R : Rl rule) {x : Rat} {ins : List Int} {D N : Nat} (H : HB D N x) (hi : ∀ a ∈ ins, a.natAbs ≤ 2 ^ 50) : ∀ k, k ≤ ins.length → HB (D * 27720 ^ k) ((2 ^ 24) ^ k * N) (hs rule x ins k)
  | 0, _ => by
    rw [show D * 27720 ^ 0 = D by omega, show (2 ^ 24) ^ 0 * N = N by omega]; exact H
  | k + 1, hk => by
    have ih := hs_B R H hi k (by omega)
    have := (ih.step R (hi _ (gt_mem (show k < ins.length by omega)))).2.2.2
    rw [show D * 27720 ^ (k + 1) = D * 27720 ^ k * 27720 by rw [Nat.pow_succ, Nat.mul_assoc], show (2 ^ 24) ^ (k + 1) * N = 2 ^ 24 * ((2 ^ 24) ^ k * N) by rw [Nat.pow_succ, Nat.mul_comm ((2 ^ 24) ^ k), Nat.mul_assoc]]
    exact this
structure HX0 (rule : List (Int × Int)) (x : Rat) (ins : List Int) : Prop where
  r : Rl rule
  ln : ins.length ≤ 6
  ib : ∀ a ∈ ins, a.natAbs ≤ 2 ^ 50
  x : HB 6 (2 ^ 60) x
theorem HX0.sz {rule : List (Int × Int)} {x : Rat} {ins : List Int} (X : HX0 rule x ins) {k : Nat} (hk : k ≤ ins.length) : Sz 300 (hs rule x ins k) := by
  have h := (hs_B X.r X.x X.ib k hk).b
  have ln := X.ln
  have h1 : (27720 : Nat) ^ k ≤ 27720 ^ 6 := Nat.pow_le_pow_right (by decide) (by omega)
  have h2 : ((2 : Nat) ^ 24) ^ k ≤ (2 ^ 24) ^ 6 := Nat.pow_le_pow_right (by decide) (by omega)
  have h3 := Nat.mul_le_mul_left 6 h1
  have h4 := Nat.mul_le_mul_right (2 ^ 60) h2
  exact h.sz (Nat.lt_of_le_of_lt h3 (by decide)) (Nat.lt_of_le_of_lt h4 (by decide))
theorem HX0.step {rule : List (Int × Int)} {x : Rat} {ins : List Int} (X : HX0 rule x ins) {k : Nat} (hk : k < ins.length) : Sz 300 (hs rule x ins k) ∧ Sz 60 ((gt ins k : Int) : Rat) ∧ Sz 380 (hs rule x ins k + ((gt ins k : Int) : Rat)) ∧ Sz 380 (gv rule (hs rule x ins k + ((gt ins k : Int) : Rat))) ∧ Sz 380 (gs rule x ins k) := by
  have H := hs_B X.r X.x X.ib k (by omega)
  have ib := X.ib _ (gt_mem hk)
  obtain ⟨b1, b2, b3, _⟩ := H.step X.r ib
  have ln := X.ln
  have h1 : (27720 : Nat) ^ k ≤ 27720 ^ 6 := Nat.pow_le_pow_right (by decide) (by omega)
  have h2 : ((2 : Nat) ^ 24) ^ k ≤ (2 ^ 24) ^ 6 := Nat.pow_le_pow_right (by decide) (by omega)
  have h3 := Nat.mul_le_mul_left 6 h1
  have h4 := Nat.mul_le_mul_right (2 ^ 60) h2
  have d1 : 6 * 27720 ^ k < 2 ^ 380 := Nat.lt_of_le_of_lt h3 (by decide)
  have d2 : 6 * 27720 ^ k * 27720 < 2 ^ 380 := Nat.lt_of_le_of_lt (Nat.mul_le_mul_right 27720 h3) (by decide)
  have d3 : 2 ^ 22 * ((2 ^ 24) ^ k * 2 ^ 60) < 2 ^ 380 := Nat.lt_of_le_of_lt (Nat.mul_le_mul_left (2 ^ 22) h4) (by decide)
  have d4 : (2 ^ 24) ^ k * 2 ^ 60 + (2 ^ 24) ^ k * 2 ^ 60 < 2 ^ 380 := Nat.lt_of_le_of_lt (Nat.add_le_add h4 h4) (by decide)
  exact ⟨X.sz (by omega), Sz_int (by decide) (by omega), b1.sz d1 d4, b2.sz d2 d3, b3.sz d2 d3⟩
structure HX (rule : List (Int × Int)) (x : Rat) (ins : List Int) : Prop where
  r : Rl rule
  ln : ins.length ≤ 6
  sz' : ∀ k, k ≤ ins.length → Sz 300 (hs rule x ins k)
  step' : ∀ k, k < ins.length → Sz 300 (hs rule x ins k) ∧ Sz 60 ((gt ins k : Int) : Rat) ∧ Sz 380 (hs rule x ins k + ((gt ins k : Int) : Rat)) ∧ Sz 380 (gv rule (hs rule x ins k + ((gt ins k : Int) : Rat))) ∧ Sz 380 (gs rule x ins k)
theorem HX0.to {rule : List (Int × Int)} {x : Rat} {ins : List Int} (X : HX0 rule x ins) : HX rule x ins := ⟨X.r, X.ln, fun k h => X.sz h, fun k h => X.step h⟩
theorem HX.sz {rule : List (Int × Int)} {x : Rat} {ins : List Int} (X : HX rule x ins) {k : Nat} (hk : k ≤ ins.length) : Sz 300 (hs rule x ins k) := X.sz' k hk
theorem HX.step {rule : List (Int × Int)} {x : Rat} {ins : List Int} (X : HX rule x ins) {k : Nat} (hk : k < ins.length) : Sz 300 (hs rule x ins k) ∧ Sz 60 ((gt ins k : Int) : Rat) ∧ Sz 380 (hs rule x ins k + ((gt ins k : Int) : Rat)) ∧ Sz 380 (gv rule (hs rule x ins k + ((gt ins k : Int) : Rat))) ∧ Sz 380 (gs rule x ins k) := X.step' k hk
def aft (rule : List (Int × Int)) (x : Rat) (ins : List Int) : List Rat := (List.range ins.length).map fun k => hs rule x ins (k + 1)
def gos (rule : List (Int × Int)) (x : Rat) (ins : List Int) : List Rat := (List.range ins.length).map (gs rule x ins)
abbrev hD (q : Rat × Rat) : D := .tup [encQ q.1, encQ q.2]
def hrs (rule : List (Int × Int)) (x : Rat) (ins : List Int) (i : Nat) : List (Rat × Rat) := (List.range i).map fun k => (hs rule x ins (k + 1), gs rule x ins k)
theorem hrs_s {rule : List (Int × Int)} {x : Rat} {ins : List Int} {i : Nat} : hrs rule x ins (i + 1) = hrs rule x ins i ++ [(hs rule x ins (i + 1), gs rule x ins i)] := by
  unfold hrs; rw [List.range_succ, List.map_append]; rfl
theorem goes_t {rule : List (Int × Int)} {x : Rat} {own : Int} (h : x + (own : Rat) < gv rule (x + (own : Rat))) : goes rule x own = x + (own : Rat) := if_pos h
theorem goes_f {rule : List (Int × Int)} {x : Rat} {own : Int} (h : ¬ x + (own : Rat) < gv rule (x + (own : Rat))) : goes rule x own = gv rule (x + (own : Rat)) := if_neg h
theorem hours_ok {n : Nat} (hn : 7 ≤ n) {rule : List (Int × Int)} {x : Rat} {ins : List Int} (X : HX rule x ins) : callF G P n 6 [.val (tR rule), .val (encQ x), .val (tI ins)] = some (.own ((hrs rule x ins ins.length).map hD), [.val (tR rule), .no, .val (tI ins)]) := by
  obtain ⟨n, rfl⟩ := fuel hn
  rw [callF_succ (fn := f_hours_of) rfl]; refine W.get (run_ok rfl rfl ?_)
  have ln := X.ln
  have cp := @cplus
  have cm := @cminus
  have cl := @cless
  wtm_at "g"
  refine W_fE (fun i e => (e.set 1 (.val (encQ (hs rule x ins i)))).set 3 (.cell ((hrs rule x ins i).map hD))) (by rfl) ?_ ?_
  · intro i own hi ho
    have hg := gt_eq ho
    obtain ⟨s1, s2, s3, s4, s5⟩ := X.step hi
    have c5 := fun n (hn : 6 ≤ n) => @gives_ok n hn rule X.r _ (s3.mono (by decide : 380 ≤ 400))
    have hl : (hrs rule x ins i).length ≤ 6 := by unfold hrs; rw [List.length_map, List.length_range]; omega
    have e1 : hs rule x ins (i + 1) = hs rule x ins i + ((gt ins i : Int) : Rat) - goes rule (hs rule x ins i) (gt ins i) := rfl
    have e2 : gs rule x ins i = goes rule (hs rule x ins i) (gt ins i) := rfl
    rw [hrs_s, e1, e2, List.map_append]
    rw [e2] at s5
    clear e1 e2 ho X
    rw [hg] at *
    clear hg
    generalize hrs rule x ins i = T at *
    generalize hs rule x ins i = z at *
    unfold b_hours_of_1
    by_cases h : z + (own : Rat) < gv rule (z + (own : Rat))
    · rw [goes_t h] at *
      wtm_at "g"
      rfl
    · rw [goes_f h] at *
      wtm_at "g"
      rfl
  · generalize hrs rule x ins ins.length = T at *
    wtm_at "g"
theorem aft_ok {n : Nat} (hn : 8 ≤ n) {rule : List (Int × Int)} {x : Rat} {ins : List Int} (X : HX rule x ins) : callF G P n 7 [.val (tR rule), .val (encQ x), .val (tI ins)] = some (.val (tQ (aft rule x ins)), [.val (tR rule), .val (encQ x), .val (tI ins)]) := by
  obtain ⟨n, rfl⟩ := fuel hn
  rw [callF_succ (fn := f_held_after) rfl]; refine W.get (run_ok rfl rfl ?_)
  have ln := X.ln
  have c6 := fun n (hn : 7 ≤ n) => @hours_ok n hn rule x ins X
  have hl : (hrs rule x ins ins.length).length ≤ 6 := by unfold hrs; rw [List.length_map, List.length_range]; omega
  have e : (aft rule x ins).map encQ = (hrs rule x ins ins.length).map fun q => encQ q.1 := by unfold aft hrs; rw [List.map_map, List.map_map]; rfl
  unfold tQ
  rw [e]
  clear e
  generalize hrs rule x ins ins.length = T at *
  wtm_at "g"
  refine W_cM (fun q : Rat × Rat => encQ q.1) ?_ ?_
  · rintro ⟨a, b⟩ _
    clear c6
    wtm_at "g"
  · wtm_at "g"
theorem gos_ok {n : Nat} (hn : 8 ≤ n) {rule : List (Int × Int)} {x : Rat} {ins : List Int} (X : HX rule x ins) : callF G P n 8 [.val (tR rule), .val (encQ x), .val (tI ins)] = some (.val (tQ (gos rule x ins)), [.val (tR rule), .val (encQ x), .val (tI ins)]) := by
  obtain ⟨n, rfl⟩ := fuel hn
  rw [callF_succ (fn := f_given_in) rfl]; refine W.get (run_ok rfl rfl ?_)
  have ln := X.ln
  have c6 := fun n (hn : 7 ≤ n) => @hours_ok n hn rule x ins X
  have hl : (hrs rule x ins ins.length).length ≤ 6 := by unfold hrs; rw [List.length_map, List.length_range]; omega
  have e : (gos rule x ins).map encQ = (hrs rule x ins ins.length).map fun q => encQ q.2 := by unfold gos hrs; rw [List.map_map, List.map_map]; rfl
  unfold tQ
  rw [e]
  clear e
  generalize hrs rule x ins ins.length = T at *
  wtm_at "g"
  refine W_cM (fun q : Rat × Rat => encQ q.2) ?_ ?_
  · rintro ⟨a, b⟩ _
    clear c6
    wtm_at "g"
  · wtm_at "g"
def ful (A : List Rat) (f : Int) (k : Nat) : Bool := decide ((f : Rat) < gt A k)
def fil (A : List Rat) (f : Int) : D := hd ((List.range A.length).filter (ful A f)) nI .non
theorem fills_ok {n : Nat} (hn : 9 ≤ n) {rule : List (Int × Int)} {x : Rat} {ins : List Int} (X : HX rule x ins) {f : Int} (hf : f.natAbs ≤ 2 ^ 60) : callF G P n 9 [.val (tR rule), .val (encQ x), .val (tI ins), .val (.int f)] = some (.val (fil (aft rule x ins) f), [.val (tR rule), .val (encQ x), .val (tI ins), .val (.int f)]) := by
  obtain ⟨n, rfl⟩ := fuel hn
  rw [callF_succ (fn := f_fills_by) rfl]; refine W.get (run_ok rfl rfl ?_)
  have ln := X.ln
  have c7 := fun n (hn : 8 ≤ n) => @aft_ok n hn rule x ins X
  have al : (aft rule x ins).length ≤ 6 := by unfold aft; rw [List.length_map, List.length_range]; exact ln
  have as : ∀ k, k < (aft rule x ins).length → Sz 300 (gt (aft rule x ins) k) := fun k hk => by
    unfold aft at hk ⊢
    rw [List.length_map, List.length_range] at hk
    rw [gt_map (by rw [List.length_range]; exact hk), gt_range hk]
    exact X.sz (by omega)
  have sf : Sz 70 (f : Rat) := Sz_int (by decide) (by omega)
  have cl := @cless
  generalize aft rule x ins = A at *
  wtm_at "g"
  refine W_fR (fun i e => e = [.val (tR rule), .val (encQ x), .val (tI ins), .val (.int f), .val (tQ A), .no] ∧ ∀ j, j < i → ful A f j = false) ⟨rfl, fun j h => by omega⟩ ?_ ?_
  · rintro i e hi ⟨rfl, hj⟩
    have s1 := as i hi
    have ok : ful A f i = true → fil A f = nI i := fun h => by unfold fil; rw [hd_get, first_some hj hi h]; rfl
    have no : ful A f i = false → ∀ j, j < i + 1 → ful A f j = false := fun h j hj2 => by
      rcases Nat.lt_succ_iff_lt_or_eq.mp hj2 with h3 | rfl
      · exact hj j h3
      · exact h
    have ec : ful A f i = decide ((f : Rat) < gt A i) := rfl
    clear hj as c7
    unfold b_fills_by_1
    by_cases h : (f : Rat) < gt A i
    · rw [decide_eq_true h] at ec
      have e9 := ok ec
      clear ok no ec
      wtm_at "g"
    · rw [decide_eq_false h] at ec
      have e9 := no ec
      clear ok no ec
      wtm_at "g"
      exact e9
  · rintro e ⟨rfl, hj⟩
    have e9 : fil A f = .non := by unfold fil; rw [hd_get, first_none hj]; rfl
    clear hj as
    wtm_at "g"
end K30

set_option exponentiation.threshold 100000
namespace K30
open Mini PL
local macro_rules | `(tactic| wtm_at "fl") => `(tactic| first | exact Fl_int | exact Fl_bl | exact Fl_non | exact Fl_str | assumption | (refine Fl_ite ?_ ?_ <;> wtm_at "fl") | (refine Fl_hd (fun _ _ => ?_) ?_ <;> wtm_at "fl") | (refine Fl_map (fun _ _ => ?_) ?_; (wtm_at "fl"); (first | omega | (simp only [List.length_map, List.length_range, List.length_cons, List.length_nil, List.length_append, List.length_set, List.length_reverse, List.length_take, List.length_drop, List.length_dropLast]; omega) | (simp only [*]; omega))) | (refine Fl_tupL ?_ ?_; (first | omega | (simp only [List.length_map, List.length_range, List.length_cons, List.length_nil, List.length_append, List.length_set, List.length_reverse, List.length_take, List.length_drop, List.length_dropLast]; omega) | (simp only [*]; omega)); wtm_at "fl") | exact FlL_nil | (refine FlL_cons ?_ ?_ <;> wtm_at "fl") | (refine FlL_app ?_ ?_ <;> wtm_at "fl") | (refine FlL_map (fun _ _ => ?_); wtm_at "fl"))
local macro_rules | `(tactic| wtm_at "w") => `(tactic| ((try (with_reducible refine V_to ?_)); simp (maxSteps := 2000000) (disch := (first | omega | assumption | (refine tv_nn ?_; omega) | (refine tv_lt ?_; omega) | (refine tv_na ?_ ?_ <;> omega) | (wtm_at "fl") | (simp only [List.length_map, List.length_range, List.length_cons, List.length_nil, List.length_append, List.length_set, List.length_reverse, List.length_take, List.length_drop, List.length_dropLast]; omega))) only [true_implies, false_implies, implies_true, not_true_eq_false, ne_eq, Int.reduceEq, Int.reduceNeg, Int.reduceToNat, reduceCtorEq, Bool.not_true, Bool.not_false, Classical.not_not, Int.toNat_natCast, MS.rngList_len, Nat.zero_le, List.contains_nil, Bool.and_true, Bool.true_and, Bool.and_false, Bool.false_and, List.map_nil, List.append_nil, Nat.reduceLT, Nat.reduceLeDiff, Int.reduceLT, Int.reduceLE, Nat.reduceMul, Int.reduceMul, Int.reduceAdd, Int.reduceSub, List.length_cons, List.length_nil, Nat.reduceAdd, Nat.reduceSub, Nat.zero_add, List.getElem?_cons_zero, List.getElem?_cons_succ, List.contains_cons, Nat.reduceBEq, Bool.or_false, Bool.or_true, Bool.false_or, outB_0, outB_1, outB_2, outB_3, outB_4, outB_5, outB_6, outB_7, outB_8, eq_ss, eq_nn, X_non, X_bl, T_bl, X_int, X_str, X_var, T_var, X_gl, X_tup, X_lst, X_bin, X_neg, X_cmp, T_cmp, X_chain, T_chain, X_isN', T_isN, isNon_non, isNon_int, isNon_tup, isNon_str, isNon_bl, eqt, eqf, X_isB, T_isB, X_ite, X_idx, T_idx, X_slT, X_slF, X_slB, X_rev, X_call, T_call, X_bi, T_bi, X_pop, X_popAt, X_mt, T_mt, X_rng, T_bin, X_not, T_not, X_and, T_and, X_or, T_or, V_nil, V_cons, R_nil, R_cons, AV_nil, AV_cons, OV_nil, OV_cons, A_nil, A_cons, O_nil, O_cons, S_asg, S_asgT, S_par, S_setI, S_aug, S_app, S_revI, S_expr, S_ret, S_retN, S_ite, S_for, S_while, S_brk, S_pass, S_kill, V_some, V_none, V_bind, V_map, V_ite, get0, getS, List.set_cons_zero, List.set_cons_succ, fin_f, fin_t, tst_eq, blR_bl, pk_val, pk_own, pk_ref, fz_val, fz_own, fz_ref, bindR_val, bindR_own, bindR_ref, intD_int, tru_bl, tru_int, tru_vl, tru_tup, tru_fl, tru_non, pks, bindT, setAll, bindRs, unref, wipe, unlock, itR, callB, refs, argB, argB1, backB, back1, noRef, augC, add_i, sub_i, badd_i, badd_t, bsub_i, c_eq, c_ne, c_lt, c_le, c_gt, c_ge, c_in_t, c_in_l, c_nin_t, c_nin_l, dok_l, dok_r, dep_int, dep_bl, dep_non, dep_str, eq_ii, eq_bb, b_len_t, b_len_v, b_len_f, b_tup_t, b_tup_v, b_tup_f, b_lst_t, b_lst_v, b_lst_f, b_min2, b_max2, b_abs, b_int_i, b_int_b, b_isB, b_isI, b_isS, b_isT, b_sum_v, b_sum_t, b_any_v, b_all_v, popL, outR_val, outR_own, outR_ref, List.nodup_nil, List.nodup_cons, List.not_mem_nil, not_false_eq_true, and_self, if_true, Bool.false_eq_true, if_false, List.mem_cons, or_false, true_and, and_true, decide_eq_true_eq, beq_iff_eq, Option.map_some, Option.bind_some, List.length_map, List.nil_append, List.cons_append, List.replicate, X_compR, X_compIfR, lim_ok, lim_filter, r1', r2', mul_i, bmul_i, fdiv_i, bfdiv_i, pow_i, mulOk_l, mulOk_r, divOk_of, powOk_of, modS, add_tS, add_lS, mul_lS, iT, iV, iTi, iVi, it0, it1, it2, it3, it4, iv0, iv1, iv2, iv3, iv_p, it_p, rev_t, rev_v, mn_v, mn_t, mx_v, mx_t, isin_bf, all_t, any_t, ← List.map_reverse, eqD_s, dok_s, iv2_i, iv3_i, max_cons, min_cons, idx_last, idx_lastT, setC_last, popI_eq, popC_ok, beq_self_eq_true, bne_self_eq_false, Int.reduceBEq, Int.reduceBNe, idx_hd, dok_ints, isin_nat, isin_int, ite_ints, appL_eq, appC_ok, setL_eq, setC_ok, setC_i, slT_t, slF_t, slT_v, slF_v, r3', tn1, tn2, ← List.map_take, ← List.map_drop, ints_f, sum_v, sum_t, any_v, all_v, if_and, if_or, Int.cast_ofNat_Int, Int.zero_add, Int.add_zero, Bool.and_eq_true, Bool.or_eq_true, Bool.not_eq_true, Bool.not_eq_eq_eq_not, decide_eq_false_iff_not, decide_true, decide_false, List.length_range, Bool.decide_eq_true, List.isEmpty_cons]; (try (with_reducible refine V_of ?_))))
local macro_rules | `(tactic| wtm_at "wx") => `(tactic| ((try (with_reducible refine V_to ?_)); simp (maxSteps := 2000000) (disch := (first | omega | assumption | (refine tv_nn ?_; omega) | (refine tv_lt ?_; omega) | (refine tv_na ?_ ?_ <;> omega) | (wtm_at "fl") | (simp only [List.length_map, List.length_range, List.length_cons, List.length_nil, List.length_append, List.length_set, List.length_reverse, List.length_take, List.length_drop, List.length_dropLast]; omega))) only [*, true_implies, false_implies, implies_true, not_true_eq_false, ne_eq, Int.reduceEq, Int.reduceNeg, Int.reduceToNat, reduceCtorEq, Bool.not_true, Bool.not_false, Classical.not_not, Int.toNat_natCast, MS.rngList_len, Nat.zero_le, List.contains_nil, Bool.and_true, Bool.true_and, Bool.and_false, Bool.false_and, List.map_nil, List.append_nil, Nat.reduceLT, Nat.reduceLeDiff, Int.reduceLT, Int.reduceLE, Nat.reduceMul, Int.reduceMul, Int.reduceAdd, Int.reduceSub, List.length_cons, List.length_nil, Nat.reduceAdd, Nat.reduceSub, Nat.zero_add, List.getElem?_cons_zero, List.getElem?_cons_succ, List.contains_cons, Nat.reduceBEq, Bool.or_false, Bool.or_true, Bool.false_or, outB_0, outB_1, outB_2, outB_3, outB_4, outB_5, outB_6, outB_7, outB_8, eq_ss, eq_nn, X_non, X_bl, T_bl, X_int, X_str, X_var, T_var, X_gl, X_tup, X_lst, X_bin, X_neg, X_cmp, T_cmp, X_chain, T_chain, X_isN', T_isN, isNon_non, isNon_int, isNon_tup, isNon_str, isNon_bl, eqt, eqf, X_isB, T_isB, X_ite, X_idx, T_idx, X_slT, X_slF, X_slB, X_rev, X_call, T_call, X_bi, T_bi, X_pop, X_popAt, X_mt, T_mt, X_rng, T_bin, X_not, T_not, X_and, T_and, X_or, T_or, V_nil, V_cons, R_nil, R_cons, AV_nil, AV_cons, OV_nil, OV_cons, A_nil, A_cons, O_nil, O_cons, S_asg, S_asgT, S_par, S_setI, S_aug, S_app, S_revI, S_expr, S_ret, S_retN, S_ite, S_for, S_while, S_brk, S_pass, S_kill, V_some, V_none, V_bind, V_map, V_ite, get0, getS, List.set_cons_zero, List.set_cons_succ, fin_f, fin_t, tst_eq, blR_bl, pk_val, pk_own, pk_ref, fz_val, fz_own, fz_ref, bindR_val, bindR_own, bindR_ref, intD_int, tru_bl, tru_int, tru_vl, tru_tup, tru_fl, tru_non, pks, bindT, setAll, bindRs, unref, wipe, unlock, itR, callB, refs, argB, argB1, backB, back1, noRef, augC, add_i, sub_i, badd_i, badd_t, bsub_i, c_eq, c_ne, c_lt, c_le, c_gt, c_ge, c_in_t, c_in_l, c_nin_t, c_nin_l, dok_l, dok_r, dep_int, dep_bl, dep_non, dep_str, eq_ii, eq_bb, b_len_t, b_len_v, b_len_f, b_tup_t, b_tup_v, b_tup_f, b_lst_t, b_lst_v, b_lst_f, b_min2, b_max2, b_abs, b_int_i, b_int_b, b_isB, b_isI, b_isS, b_isT, b_sum_v, b_sum_t, b_any_v, b_all_v, popL, outR_val, outR_own, outR_ref, List.nodup_nil, List.nodup_cons, List.not_mem_nil, not_false_eq_true, and_self, if_true, Bool.false_eq_true, if_false, List.mem_cons, or_false, true_and, and_true, decide_eq_true_eq, beq_iff_eq, Option.map_some, Option.bind_some, List.length_map, List.nil_append, List.cons_append, List.replicate, X_compR, X_compIfR, lim_ok, lim_filter, r1', r2', mul_i, bmul_i, fdiv_i, bfdiv_i, pow_i, mulOk_l, mulOk_r, divOk_of, powOk_of, modS, add_tS, add_lS, mul_lS, iT, iV, iTi, iVi, it0, it1, it2, it3, it4, iv0, iv1, iv2, iv3, iv_p, it_p, rev_t, rev_v, mn_v, mn_t, mx_v, mx_t, isin_bf, all_t, any_t, ← List.map_reverse, eqD_s, dok_s, iv2_i, iv3_i, max_cons, min_cons, idx_last, idx_lastT, setC_last, popI_eq, popC_ok, beq_self_eq_true, bne_self_eq_false, Int.reduceBEq, Int.reduceBNe, idx_hd, dok_ints, isin_nat, isin_int, ite_ints, appL_eq, appC_ok, setL_eq, setC_ok, setC_i, slT_t, slF_t, slT_v, slF_v, r3', tn1, tn2, ← List.map_take, ← List.map_drop, ints_f, sum_v, sum_t, any_v, all_v, if_and, if_or, Int.cast_ofNat_Int, Int.zero_add, Int.add_zero, Bool.and_eq_true, Bool.or_eq_true, Bool.not_eq_true, Bool.not_eq_eq_eq_not, decide_eq_false_iff_not, decide_true, decide_false, List.length_range, Bool.decide_eq_true, List.isEmpty_cons]; (try (with_reducible refine V_of ?_))))
local macro_rules | `(tactic| wtm_at "s1") => `(tactic| (first | refine W_st ?_ | refine W_sn ?_) <;> (try wtm_at "wx"))
local macro_rules | `(tactic| wtm_at "go") => `(tactic| ((try simp only [bindT, setAll, Option.bind_some, List.set_cons_zero, List.set_cons_succ]); (first | (wtm_at "s1") | (wtm_at "wx")); repeat (wtm_at "s1")))
local macro_rules | `(tactic| wtm_at "s1") => `(tactic| first | (refine W_sK fun _ _ => ?_; try wtm_at "wx") | (refine W_sn ?_; try wtm_at "wx") | (refine KK.nx (by assumption) ?_; try wtm_at "wx") | (refine KK.rt (by assumption) ?_; try wtm_at "wx") | (refine KK.bk (by assumption) ?_; try wtm_at "wx"))
local macro_rules | `(tactic| wtm_at "go") => `(tactic| ((try simp only [bindT, setAll, Option.bind_some, List.set_cons_zero, List.set_cons_succ]); (first | (wtm_at "s1") | (wtm_at "wx")); repeat (wtm_at "s1")))
local macro_rules | `(tactic| wtm_at "ws") => `(tactic| ((wtm_at "s1"); repeat (wtm_at "s1")))
local macro_rules | `(tactic| wtm_at "tk") => `(tactic| ((try (with_reducible refine V_of ?_)); (first | refine take_q (by rfl) (by omega) (by omega) ?_); intro _ _ _ _; (try wtm_at "wx")))
local macro_rules | `(tactic| wtm_at "g") => `(tactic| ((try simp only [bindT, setAll, Option.bind_some, List.set_cons_zero, List.set_cons_succ]); (first | (wtm_at "tk") | (wtm_at "s1") | (wtm_at "wx")); repeat (first | (wtm_at "tk") | (wtm_at "s1"))))
local macro_rules | `(tactic| wtm_at "gg") => `(tactic| ((try (with_reducible refine V_of ?_)); (try wtm_at "g"); (try (refine ⟨fun _ => ?_, fun _ => ?_⟩ <;> wtm_at "gg"))))
local macro_rules | `(tactic| wtm_at "ifs") => `(tactic| ((repeat' split) <;> omega))

/-! ### sums of days -/
def pre (ins : List Int) (i : Nat) : Int := (ins.take i).sum
theorem pre_s {ins : List Int} {i : Nat} (h : i < ins.length) : pre ins (i + 1) = pre ins i + gt ins i := by
  unfold pre; rw [take_snoc (gt_some h), List.sum_append]; simp
theorem seg_sum {ins : List Int} {f l : Nat} (h : f ≤ l) : ((ins.take l).drop f).sum = pre ins l - pre ins f := by
  have h1 := List.take_append_drop f (ins.take l)
  have h2 : (ins.take l).sum = ((ins.take l).take f).sum + ((ins.take l).drop f).sum := by rw [← List.sum_append, h1]
  rw [List.take_take, Nat.min_eq_left h] at h2
  unfold pre
  omega
def dv (ins : List Int) (out : Int) (f l : Nat) : Int := out * ((l : Int) - (f : Int)) - (pre ins l - pre ins f)
theorem dv_0 {ins : List Int} {out : Int} {f : Nat} : dv ins out f f = 0 := by unfold dv; rw [Int.sub_self, Int.mul_zero]; omega
theorem dv_s {ins : List Int} {out : Int} {f l : Nat} (h : l < ins.length) : dv ins out f (l + 1) = dv ins out f l + out - gt ins l := by
  unfold dv
  rw [pre_s h, show ((l + 1 : Nat) : Int) - (f : Int) = ((l : Int) - (f : Int)) + 1 by omega, Int.mul_add, Int.mul_one]
  omega
def lk (ins : List Int) (out : Int) : Nat → Int
  | 0 => 0
  | i + 1 => max 0 (lk ins out i + out - gt ins i)
def bs (ins : List Int) (out : Int) : Nat → Int
  | 0 => 0
  | i + 1 => max (bs ins out i) (lk ins out (i + 1))
theorem lk_nn {ins : List Int} {out : Int} : ∀ i, 0 ≤ lk ins out i
  | 0 => Int.le_refl _
  | i + 1 => by unfold lk; omega
theorem lk_ge {ins : List Int} {out : Int} : ∀ i, i ≤ ins.length → ∀ f, f ≤ i → dv ins out f i ≤ lk ins out i
  | 0, _, f, h => by have : f = 0 := by omega
                     subst this; rw [dv_0]; exact lk_nn 0
  | i + 1, hi, f, h => by
    rcases Nat.lt_or_ge f (i + 1) with h1 | h1
    · have ih := lk_ge (ins := ins) (out := out) i (by omega) f (by omega)
      rw [dv_s (by omega)]
      unfold lk
      omega
    · have : f = i + 1 := by omega
      subst this; rw [dv_0]; exact lk_nn _
theorem lk_ex {ins : List Int} {out : Int} : ∀ i, i ≤ ins.length → ∃ f, f ≤ i ∧ lk ins out i = dv ins out f i
  | 0, _ => ⟨0, Nat.le_refl _, by rw [dv_0]; rfl⟩
  | i + 1, hi => by
    obtain ⟨f, h1, h2⟩ := lk_ex (ins := ins) (out := out) i (by omega)
    by_cases hc : 0 ≤ lk ins out i + out - gt ins i
    · refine ⟨f, by omega, ?_⟩
      rw [dv_s (by omega), ← h2]
      show max 0 (lk ins out i + out - gt ins i) = _
      omega
    · refine ⟨i + 1, Nat.le_refl _, ?_⟩
      rw [dv_0]
      show max 0 (lk ins out i + out - gt ins i) = _
      omega
theorem bs_ge {ins : List Int} {out : Int} : ∀ i j, j ≤ i → lk ins out j ≤ bs ins out i
  | 0, j, h => by have : j = 0 := by omega
                  subst this; exact Int.le_refl _
  | i + 1, j, h => by
    unfold bs
    rcases Nat.lt_or_ge j (i + 1) with h1 | h1
    · have := bs_ge (ins := ins) (out := out) i j (by omega); omega
    · have : j = i + 1 := by omega
      subst this; omega
theorem bs_ex {ins : List Int} {out : Int} : ∀ i, ∃ j, j ≤ i ∧ bs ins out i = lk ins out j
  | 0 => ⟨0, Nat.le_refl _, rfl⟩
  | i + 1 => by
    obtain ⟨j, h1, h2⟩ := bs_ex (ins := ins) (out := out) i
    by_cases hc : bs ins out i ≤ lk ins out (i + 1)
    · exact ⟨i + 1, Nat.le_refl _, by unfold bs; omega⟩
    · exact ⟨j, by omega, by unfold bs; omega⟩
def lst (ins : List Int) (out : Int) : Int := bs ins out ins.length
theorem lst_ge {ins : List Int} {out : Int} {f l : Nat} (h1 : f ≤ l) (h2 : l ≤ ins.length) : dv ins out f l ≤ lst ins out := Int.le_trans (lk_ge l h2 f h1) (bs_ge _ _ h2)
theorem lst_ex {ins : List Int} {out : Int} : ∃ f l, f ≤ l ∧ l ≤ ins.length ∧ lst ins out = dv ins out f l := by
  obtain ⟨l, h1, h2⟩ := bs_ex (ins := ins) (out := out) ins.length
  obtain ⟨f, h3, h4⟩ := lk_ex (ins := ins) (out := out) l h1
  exact ⟨f, l, h3, h1, h2.trans h4⟩
theorem lst_nn {ins : List Int} {out : Int} : 0 ≤ lst ins out := by have := lst_ge (ins := ins) (out := out) (Nat.le_refl 0) (Nat.zero_le _); rw [dv_0] at this; exact this
theorem least_ok {n : Nat} (hn : 1 ≤ n) {ins : List Int} (hi : ins.length ≤ 20) (out : Int) : callF G P n 10 [.val (tI ins), .val (.int out)] = some (.val (.int (lst ins out)), [.val (tI ins), .val (.int out)]) := by
  obtain ⟨n, rfl⟩ := fuel hn
  rw [callF_succ (fn := f_least_for) rfl]; refine W.get (run_ok rfl rfl ?_)
  wtm_at "g"
  refine W_fE (fun i e => (e.set 2 (.val (.int (bs ins out i)))).set 3 (.val (.int (lk ins out i)))) (by rfl) ?_ ?_
  · intro i own hi ho
    have hg := gt_eq ho
    rw [bs, lk, hg]
    clear ho hg
    generalize bs ins out i = b
    generalize lk ins out i = k
    unfold b_least_for_1
    wtm_at "g"
  · have e : bs ins out ins.length = lst ins out := rfl
    rw [e]
    wtm_at "g"
theorem kept_ok {n : Nat} (hn : 2 ≤ n) {ins : List Int} (hi : ins.length ≤ 20) (out s : Int) : callF G P n 12 [.val (tI ins), .val (.int out), .val (.int s)] = some (.val (.bl (decide (lst ins out ≤ s))), [.val (tI ins), .val (.int out), .val (.int s)]) := by
  obtain ⟨n, rfl⟩ := fuel hn
  rw [callF_succ (fn := f_is_kept) rfl]; refine W.get (run_ok rfl rfl ?_)
  have c := fun n (hn : 1 ≤ n) => @least_ok n hn ins hi out
  wtm_at "g"
end K30

set_option exponentiation.threshold 100000
namespace K30
open Mini PL
local macro_rules | `(tactic| wtm_at "fl") => `(tactic| first | exact Fl_int | exact Fl_bl | exact Fl_non | exact Fl_str | assumption | (refine Fl_ite ?_ ?_ <;> wtm_at "fl") | (refine Fl_hd (fun _ _ => ?_) ?_ <;> wtm_at "fl") | (refine Fl_map (fun _ _ => ?_) ?_; (wtm_at "fl"); (first | omega | (simp only [List.length_map, List.length_range, List.length_cons, List.length_nil, List.length_append, List.length_set, List.length_reverse, List.length_take, List.length_drop, List.length_dropLast]; omega) | (simp only [*]; omega))) | (refine Fl_tupL ?_ ?_; (first | omega | (simp only [List.length_map, List.length_range, List.length_cons, List.length_nil, List.length_append, List.length_set, List.length_reverse, List.length_take, List.length_drop, List.length_dropLast]; omega) | (simp only [*]; omega)); wtm_at "fl") | exact FlL_nil | (refine FlL_cons ?_ ?_ <;> wtm_at "fl") | (refine FlL_app ?_ ?_ <;> wtm_at "fl") | (refine FlL_map (fun _ _ => ?_); wtm_at "fl"))
local macro_rules | `(tactic| wtm_at "w") => `(tactic| ((try (with_reducible refine V_to ?_)); simp (maxSteps := 2000000) (disch := (first | omega | assumption | (refine tv_nn ?_; omega) | (refine tv_lt ?_; omega) | (refine tv_na ?_ ?_ <;> omega) | (wtm_at "fl") | (simp only [List.length_map, List.length_range, List.length_cons, List.length_nil, List.length_append, List.length_set, List.length_reverse, List.length_take, List.length_drop, List.length_dropLast]; omega))) only [true_implies, false_implies, implies_true, not_true_eq_false, ne_eq, Int.reduceEq, Int.reduceNeg, Int.reduceToNat, reduceCtorEq, Bool.not_true, Bool.not_false, Classical.not_not, Int.toNat_natCast, MS.rngList_len, Nat.zero_le, List.contains_nil, Bool.and_true, Bool.true_and, Bool.and_false, Bool.false_and, List.map_nil, List.append_nil, Nat.reduceLT, Nat.reduceLeDiff, Int.reduceLT, Int.reduceLE, Nat.reduceMul, Int.reduceMul, Int.reduceAdd, Int.reduceSub, List.length_cons, List.length_nil, Nat.reduceAdd, Nat.reduceSub, Nat.zero_add, List.getElem?_cons_zero, List.getElem?_cons_succ, List.contains_cons, Nat.reduceBEq, Bool.or_false, Bool.or_true, Bool.false_or, outB_0, outB_1, outB_2, outB_3, outB_4, outB_5, outB_6, outB_7, outB_8, eq_ss, eq_nn, X_non, X_bl, T_bl, X_int, X_str, X_var, T_var, X_gl, X_tup, X_lst, X_bin, X_neg, X_cmp, T_cmp, X_chain, T_chain, X_isN', T_isN, isNon_non, isNon_int, isNon_tup, isNon_str, isNon_bl, eqt, eqf, X_isB, T_isB, X_ite, X_idx, T_idx, X_slT, X_slF, X_slB, X_rev, X_call, T_call, X_bi, T_bi, X_pop, X_popAt, X_mt, T_mt, X_rng, T_bin, X_not, T_not, X_and, T_and, X_or, T_or, V_nil, V_cons, R_nil, R_cons, AV_nil, AV_cons, OV_nil, OV_cons, A_nil, A_cons, O_nil, O_cons, S_asg, S_asgT, S_par, S_setI, S_aug, S_app, S_revI, S_expr, S_ret, S_retN, S_ite, S_for, S_while, S_brk, S_pass, S_kill, V_some, V_none, V_bind, V_map, V_ite, get0, getS, List.set_cons_zero, List.set_cons_succ, fin_f, fin_t, tst_eq, blR_bl, pk_val, pk_own, pk_ref, fz_val, fz_own, fz_ref, bindR_val, bindR_own, bindR_ref, intD_int, tru_bl, tru_int, tru_vl, tru_tup, tru_fl, tru_non, pks, bindT, setAll, bindRs, unref, wipe, unlock, itR, callB, refs, argB, argB1, backB, back1, noRef, augC, add_i, sub_i, badd_i, badd_t, bsub_i, c_eq, c_ne, c_lt, c_le, c_gt, c_ge, c_in_t, c_in_l, c_nin_t, c_nin_l, dok_l, dok_r, dep_int, dep_bl, dep_non, dep_str, eq_ii, eq_bb, b_len_t, b_len_v, b_len_f, b_tup_t, b_tup_v, b_tup_f, b_lst_t, b_lst_v, b_lst_f, b_min2, b_max2, b_abs, b_int_i, b_int_b, b_isB, b_isI, b_isS, b_isT, b_sum_v, b_sum_t, b_any_v, b_all_v, popL, outR_val, outR_own, outR_ref, List.nodup_nil, List.nodup_cons, List.not_mem_nil, not_false_eq_true, and_self, if_true, Bool.false_eq_true, if_false, List.mem_cons, or_false, true_and, and_true, decide_eq_true_eq, beq_iff_eq, Option.map_some, Option.bind_some, List.length_map, List.nil_append, List.cons_append, List.replicate, X_compR, X_compIfR, lim_ok, lim_filter, r1', r2', mul_i, bmul_i, fdiv_i, bfdiv_i, pow_i, mulOk_l, mulOk_r, divOk_of, powOk_of, modS, add_tS, add_lS, mul_lS, iT, iV, iTi, iVi, it0, it1, it2, it3, it4, iv0, iv1, iv2, iv3, iv_p, it_p, rev_t, rev_v, mn_v, mn_t, mx_v, mx_t, isin_bf, all_t, any_t, ← List.map_reverse, eqD_s, dok_s, iv2_i, iv3_i, max_cons, min_cons, idx_last, idx_lastT, setC_last, popI_eq, popC_ok, beq_self_eq_true, bne_self_eq_false, Int.reduceBEq, Int.reduceBNe, idx_hd, dok_ints, isin_nat, isin_int, ite_ints, appL_eq, appC_ok, setL_eq, setC_ok, setC_i, slT_t, slF_t, slT_v, slF_v, r3', tn1, tn2, ← List.map_take, ← List.map_drop, ints_f, sum_v, sum_t, any_v, all_v, if_and, if_or, Int.cast_ofNat_Int, Int.zero_add, Int.add_zero, Bool.and_eq_true, Bool.or_eq_true, Bool.not_eq_true, Bool.not_eq_eq_eq_not, decide_eq_false_iff_not, decide_true, decide_false, List.length_range, Bool.decide_eq_true, List.isEmpty_cons]; (try (with_reducible refine V_of ?_))))
local macro_rules | `(tactic| wtm_at "wx") => `(tactic| ((try (with_reducible refine V_to ?_)); simp (maxSteps := 2000000) (disch := (first | omega | assumption | (refine tv_nn ?_; omega) | (refine tv_lt ?_; omega) | (refine tv_na ?_ ?_ <;> omega) | (wtm_at "fl") | (simp only [List.length_map, List.length_range, List.length_cons, List.length_nil, List.length_append, List.length_set, List.length_reverse, List.length_take, List.length_drop, List.length_dropLast]; omega))) only [*, true_implies, false_implies, implies_true, not_true_eq_false, ne_eq, Int.reduceEq, Int.reduceNeg, Int.reduceToNat, reduceCtorEq, Bool.not_true, Bool.not_false, Classical.not_not, Int.toNat_natCast, MS.rngList_len, Nat.zero_le, List.contains_nil, Bool.and_true, Bool.true_and, Bool.and_false, Bool.false_and, List.map_nil, List.append_nil, Nat.reduceLT, Nat.reduceLeDiff, Int.reduceLT, Int.reduceLE, Nat.reduceMul, Int.reduceMul, Int.reduceAdd, Int.reduceSub, List.length_cons, List.length_nil, Nat.reduceAdd, Nat.reduceSub, Nat.zero_add, List.getElem?_cons_zero, List.getElem?_cons_succ, List.contains_cons, Nat.reduceBEq, Bool.or_false, Bool.or_true, Bool.false_or, outB_0, outB_1, outB_2, outB_3, outB_4, outB_5, outB_6, outB_7, outB_8, eq_ss, eq_nn, X_non, X_bl, T_bl, X_int, X_str, X_var, T_var, X_gl, X_tup, X_lst, X_bin, X_neg, X_cmp, T_cmp, X_chain, T_chain, X_isN', T_isN, isNon_non, isNon_int, isNon_tup, isNon_str, isNon_bl, eqt, eqf, X_isB, T_isB, X_ite, X_idx, T_idx, X_slT, X_slF, X_slB, X_rev, X_call, T_call, X_bi, T_bi, X_pop, X_popAt, X_mt, T_mt, X_rng, T_bin, X_not, T_not, X_and, T_and, X_or, T_or, V_nil, V_cons, R_nil, R_cons, AV_nil, AV_cons, OV_nil, OV_cons, A_nil, A_cons, O_nil, O_cons, S_asg, S_asgT, S_par, S_setI, S_aug, S_app, S_revI, S_expr, S_ret, S_retN, S_ite, S_for, S_while, S_brk, S_pass, S_kill, V_some, V_none, V_bind, V_map, V_ite, get0, getS, List.set_cons_zero, List.set_cons_succ, fin_f, fin_t, tst_eq, blR_bl, pk_val, pk_own, pk_ref, fz_val, fz_own, fz_ref, bindR_val, bindR_own, bindR_ref, intD_int, tru_bl, tru_int, tru_vl, tru_tup, tru_fl, tru_non, pks, bindT, setAll, bindRs, unref, wipe, unlock, itR, callB, refs, argB, argB1, backB, back1, noRef, augC, add_i, sub_i, badd_i, badd_t, bsub_i, c_eq, c_ne, c_lt, c_le, c_gt, c_ge, c_in_t, c_in_l, c_nin_t, c_nin_l, dok_l, dok_r, dep_int, dep_bl, dep_non, dep_str, eq_ii, eq_bb, b_len_t, b_len_v, b_len_f, b_tup_t, b_tup_v, b_tup_f, b_lst_t, b_lst_v, b_lst_f, b_min2, b_max2, b_abs, b_int_i, b_int_b, b_isB, b_isI, b_isS, b_isT, b_sum_v, b_sum_t, b_any_v, b_all_v, popL, outR_val, outR_own, outR_ref, List.nodup_nil, List.nodup_cons, List.not_mem_nil, not_false_eq_true, and_self, if_true, Bool.false_eq_true, if_false, List.mem_cons, or_false, true_and, and_true, decide_eq_true_eq, beq_iff_eq, Option.map_some, Option.bind_some, List.length_map, List.nil_append, List.cons_append, List.replicate, X_compR, X_compIfR, lim_ok, lim_filter, r1', r2', mul_i, bmul_i, fdiv_i, bfdiv_i, pow_i, mulOk_l, mulOk_r, divOk_of, powOk_of, modS, add_tS, add_lS, mul_lS, iT, iV, iTi, iVi, it0, it1, it2, it3, it4, iv0, iv1, iv2, iv3, iv_p, it_p, rev_t, rev_v, mn_v, mn_t, mx_v, mx_t, isin_bf, all_t, any_t, ← List.map_reverse, eqD_s, dok_s, iv2_i, iv3_i, max_cons, min_cons, idx_last, idx_lastT, setC_last, popI_eq, popC_ok, beq_self_eq_true, bne_self_eq_false, Int.reduceBEq, Int.reduceBNe, idx_hd, dok_ints, isin_nat, isin_int, ite_ints, appL_eq, appC_ok, setL_eq, setC_ok, setC_i, slT_t, slF_t, slT_v, slF_v, r3', tn1, tn2, ← List.map_take, ← List.map_drop, ints_f, sum_v, sum_t, any_v, all_v, if_and, if_or, Int.cast_ofNat_Int, Int.zero_add, Int.add_zero, Bool.and_eq_true, Bool.or_eq_true, Bool.not_eq_true, Bool.not_eq_eq_eq_not, decide_eq_false_iff_not, decide_true, decide_false, List.length_range, Bool.decide_eq_true, List.isEmpty_cons]; (try (with_reducible refine V_of ?_))))
local macro_rules | `(tactic| wtm_at "s1") => `(tactic| (first | refine W_st ?_ | refine W_sn ?_) <;> (try wtm_at "wx"))
local macro_rules | `(tactic| wtm_at "go") => `(tactic| ((try simp only [bindT, setAll, Option.bind_some, List.set_cons_zero, List.set_cons_succ]); (first | (wtm_at "s1") | (wtm_at "wx")); repeat (wtm_at "s1")))
local macro_rules | `(tactic| wtm_at "s1") => `(tactic| first | (refine W_sK fun _ _ => ?_; try wtm_at "wx") | (refine W_sn ?_; try wtm_at "wx") | (refine KK.nx (by assumption) ?_; try wtm_at "wx") | (refine KK.rt (by assumption) ?_; try wtm_at "wx") | (refine KK.bk (by assumption) ?_; try wtm_at "wx"))
local macro_rules | `(tactic| wtm_at "go") => `(tactic| ((try simp only [bindT, setAll, Option.bind_some, List.set_cons_zero, List.set_cons_succ]); (first | (wtm_at "s1") | (wtm_at "wx")); repeat (wtm_at "s1")))
local macro_rules | `(tactic| wtm_at "ws") => `(tactic| ((wtm_at "s1"); repeat (wtm_at "s1")))
local macro_rules | `(tactic| wtm_at "tk") => `(tactic| ((try (with_reducible refine V_of ?_)); (first | refine take_q (by rfl) (by omega) (by omega) ?_); intro _ _ _ _; (try wtm_at "wx")))
local macro_rules | `(tactic| wtm_at "g") => `(tactic| ((try simp only [bindT, setAll, Option.bind_some, List.set_cons_zero, List.set_cons_succ]); (first | (wtm_at "tk") | (wtm_at "s1") | (wtm_at "wx")); repeat (first | (wtm_at "tk") | (wtm_at "s1"))))
local macro_rules | `(tactic| wtm_at "gg") => `(tactic| ((try (with_reducible refine V_of ?_)); (try wtm_at "g"); (try (refine ⟨fun _ => ?_, fun _ => ?_⟩ <;> wtm_at "gg"))))
local macro_rules | `(tactic| wtm_at "ifs") => `(tactic| ((repeat' split) <;> omega))

/-! ### the evenest release -/
def q1 (ins : List Int) (s : Int) (f j : Nat) : Int := (s + (pre ins (f + j + 1) - pre ins f)).fdiv ((j : Int) + 1)
def row (ins : List Int) (s : Int) (f j : Nat) : List Int := (List.range j).map (q1 ins s f)
def QL (ins : List Int) (s : Int) : Nat → List Int
  | 0 => []
  | f + 1 => QL ins s f ++ row ins s f (ins.length - f)
def mD (l : List Int) : D := if l.length = 0 then .non else .int (mnL l)
theorem mD_0 {l : List Int} (h : l.length = 0) : mD l = .non := if_pos h
theorem mD_1 {l : List Int} (h : 0 < l.length) : mD l = .int (mnL l) := if_neg (by omega)
theorem mD_one {l : List Int} (h : l.length = 0) {a : Int} : mD (l ++ [a]) = .int a := by
  rw [List.length_eq_zero_iff.mp h]; rfl
theorem mD_lt {l : List Int} (h : 0 < l.length) {a : Int} (h2 : a < mnL l) : mD (l ++ [a]) = .int a := by
  rw [mD_1 (by simp)]
  congr 1
  exact mnL_eq (by simp) fun x hx => by
    rcases List.mem_append.mp hx with hx | hx
    · have := mnL_le hx; omega
    · rw [List.mem_singleton.mp hx]; exact Int.le_refl _
theorem mD_ge {l : List Int} (h : 0 < l.length) {a : Int} (h2 : ¬ a < mnL l) : mD (l ++ [a]) = .int (mnL l) := by
  rw [mD_1 (by simp)]
  congr 1
  exact mnL_eq (by simp [mnL_mem h]) fun x hx => by
    rcases List.mem_append.mp hx with hx | hx
    · exact mnL_le hx
    · rw [List.mem_singleton.mp hx]; omega
theorem row_s {ins : List Int} {s : Int} {f j : Nat} : row ins s f (j + 1) = row ins s f j ++ [q1 ins s f j] := by
  unfold row; rw [List.range_succ, List.map_append]; rfl
theorem QL_len {ins : List Int} {s : Int} (hi : ins.length ≤ 20) : ∀ f, f ≤ 20 → (QL ins s f).length ≤ 20 * f
  | 0, _ => Nat.le_refl _
  | f + 1, h => by
    have := QL_len (s := s) hi f (by omega)
    rw [QL, List.length_append, row, List.length_map, List.length_range]
    omega
theorem QL_mem {ins : List Int} {s x : Int} : ∀ {n : Nat}, x ∈ QL ins s n ↔ ∃ f j, f < n ∧ j < ins.length - f ∧ x = q1 ins s f j
  | 0 => ⟨(fun h => by cases h), (fun ⟨f, j, h, _⟩ => by omega)⟩
  | n + 1 => by
    rw [QL, List.mem_append, QL_mem (n := n)]
    constructor
    · intro h
      rcases h with ⟨f, j, h1, h2, h3⟩ | h
      · exact ⟨f, j, by omega, h2, h3⟩
      · obtain ⟨j, hj, rfl⟩ := List.mem_map.mp h
        exact ⟨n, j, by omega, List.mem_range.mp hj, rfl⟩
    · rintro ⟨f, j, h1, h2, h3⟩
      rcases Nat.lt_succ_iff_lt_or_eq.mp h1 with h | rfl
      · exact .inl ⟨f, j, h, h2, h3⟩
      · exact .inr (List.mem_map.mpr ⟨j, List.mem_range.mpr h2, h3.symm⟩)
def ev (ins : List Int) (s : Int) : D := mD (QL ins s ins.length)
theorem even_ok {n : Nat} (hn : 1 ≤ n) {ins : List Int} (hi : ins.length ≤ 20) (s : Int) : callF G P n 11 [.val (tI ins), .val (.int s)] = some (.val (ev ins s), [.val (tI ins), .val (.int s)]) := by
  obtain ⟨n, rfl⟩ := fuel hn
  rw [callF_succ (fn := f_even_out) rfl]; refine W.get (run_ok rfl rfl ?_)
  wtm_at "g"
  refine W_fER (fun i e => e.set 2 (.val (mD (QL ins s i)))) (by rfl) ?_ ?_
  · intro f hf
    rw [QL]
    have kr : ((ins.length : Int) - (f : Int)).toNat = ins.length - f := by omega
    generalize QL ins s f = F at *
    unfold b_even_out_2
    wtm_at "g"
    have e0 : F ++ row ins s f 0 = F := List.append_nil _
    refine W_fER (fun j e => (e.set 2 (.val (mD (F ++ row ins s f j)))).set 4 (.val (.int (pre ins (f + j) - pre ins f)))) (by rw [e0, Nat.add_zero, Int.sub_self]; rfl) ?_ ?_
    · intro j hj
      have hfj : f + j < ins.length := by omega
      have ei : ((f : Int) + (j : Int)).toNat = f + j := by omega
      have es : pre ins (f + j) - pre ins f + gt ins (f + j) = pre ins (f + (j + 1)) - pre ins f := by rw [← Nat.add_assoc, pre_s hfj]; omega
      have eq1 : (s + (pre ins (f + (j + 1)) - pre ins f)).fdiv ((f : Int) + (j : Int) - (f : Int) + 1) = q1 ins s f j := by
        unfold q1
        rw [show (f : Int) + (j : Int) - (f : Int) + 1 = (j : Int) + 1 by omega, Nat.add_assoc]
      have dk : divOk ((f : Int) + (j : Int) - (f : Int) + 1) = true := divOk_of (by omega) (by omega)
      rw [row_s, ← List.append_assoc]
      clear e0
      generalize F ++ row ins s f j = T at *
      generalize q1 ins s f j = a at *
      unfold b_even_out_1
      by_cases h0 : T.length = 0
      · rw [mD_0 h0, mD_one h0]
        clear h0
        wtm_at "g"
      · have h0' : 0 < T.length := by omega
        rw [mD_1 h0']
        clear h0
        by_cases h3 : a < mnL T
        · rw [mD_lt h0' h3]
          wtm_at "g"
        · rw [mD_ge h0' h3]
          wtm_at "g"
    · refine KK.nx (by assumption) ?_
      generalize F ++ row ins s f (ins.length - f) = T at *
      wtm_at "g"
  · have e : mD (QL ins s ins.length) = ev ins s := rfl
    rw [e]
    generalize ev ins s = E0 at *
    wtm_at "g"
theorem ev_law {ins : List Int} {s : Int} (h0 : 0 < ins.length) (hs : 0 ≤ s) : ∃ t : Int, ev ins s = .int t ∧ t = mnL (QL ins s ins.length) ∧ 0 < (QL ins s ins.length).length ∧ lst ins t ≤ s ∧ s < lst ins (t + 1) := by
  have hm : q1 ins s 0 0 ∈ QL ins s ins.length := QL_mem.mpr ⟨0, 0, h0, by omega, rfl⟩
  have hl := List.length_pos_of_mem hm
  refine ⟨mnL (QL ins s ins.length), mD_1 hl, rfl, hl, ?_, ?_⟩
  · obtain ⟨f, l, h1, h2, h3⟩ := lst_ex (ins := ins) (out := mnL (QL ins s ins.length))
    rw [h3]
    rcases Nat.lt_or_ge f l with h | h
    · have hq := mnL_le (QL_mem.mpr ⟨f, l - f - 1, by omega, by omega, rfl⟩ : q1 ins s f (l - f - 1) ∈ QL ins s ins.length)
      unfold q1 at hq
      rw [show f + (l - f - 1) + 1 = l by omega, show (((l - f - 1 : Nat) : Int)) + 1 = (l : Int) - (f : Int) by omega, Int.fdiv_eq_ediv_of_nonneg _ (by omega)] at hq
      have := (Int.le_ediv_iff_mul_le (show (0 : Int) < (l : Int) - (f : Int) by omega)).mp hq
      unfold dv
      omega
    · have : l = f := by omega
      rw [this, dv_0]; exact hs
  · obtain ⟨f, j, h1, h2, h3⟩ := QL_mem.mp (mnL_mem hl)
    have hd := lst_ge (ins := ins) (out := mnL (QL ins s ins.length) + 1) (f := f) (l := f + j + 1) (by omega) (by omega)
    refine Int.lt_of_lt_of_le ?_ hd
    generalize mnL (QL ins s ins.length) = t at *
    unfold q1 at h3
    rw [Int.fdiv_eq_ediv_of_nonneg _ (by omega)] at h3
    have h4 : (s + (pre ins (f + j + 1) - pre ins f)) / ((j : Int) + 1) < t + 1 := by omega
    have h5 := (Int.ediv_lt_iff_lt_mul (show (0 : Int) < (j : Int) + 1 by omega)).mp h4
    unfold dv
    rw [show ((f + j + 1 : Nat) : Int) - (f : Int) = (j : Int) + 1 by omega]
    omega
end K30

set_option exponentiation.threshold 100000
namespace K30
open Mini PL
local macro_rules | `(tactic| wtm_at "sz0") => `(tactic| first | assumption | ((with_reducible refine @Sz_add ?a ?b _ _ ?h ?k); (case h => wtm_at "sz0"); (case k => wtm_at "sz0")) | ((with_reducible refine @Sz_sub ?a ?b _ _ ?h ?k); (case h => wtm_at "sz0"); (case k => wtm_at "sz0")) | ((with_reducible refine @Sz_mul ?a ?b _ _ ?h ?k); (case h => wtm_at "sz0"); (case k => wtm_at "sz0")) | ((with_reducible refine @Sz_neg ?a _ ?h); (case h => wtm_at "sz0")) | ((with_reducible refine @Sz_qabs ?a _ ?h); (case h => wtm_at "sz0")) | ((with_reducible refine Sz0 (b := 1) ?_); decide) | ((with_reducible refine Sz1 (b := 2) ?_); decide) | ((with_reducible refine Sz_int (b := 300) ?_ ?_) <;> first | decide | omega))
local macro_rules | `(tactic| wtm_at "sz") => `(tactic| first | assumption | (refine @Sz.mono ?a _ _ ?h ?l; (case h => wtm_at "sz0"); (case l => first | decide | omega)))
local macro_rules | `(tactic| wtm_at "fl") => `(tactic| first | exact Fl_int | exact Fl_bl | exact Fl_non | exact Fl_str | exact Fl_Q | assumption | (refine Fl_ite ?_ ?_ <;> wtm_at "fl") | (refine Fl_hd (fun _ _ => ?_) ?_ <;> wtm_at "fl") | (refine Fl_map (fun _ _ => ?_) ?_; (wtm_at "fl"); (first | omega | (simp only [List.length_map, List.length_range, List.length_cons, List.length_nil, List.length_append, List.length_set, List.length_reverse, List.length_take, List.length_drop, List.length_dropLast]; omega) | (simp only [*]; omega))) | (refine Fl_tupL ?_ ?_; (first | omega | (simp only [List.length_map, List.length_range, List.length_cons, List.length_nil, List.length_append, List.length_set, List.length_reverse, List.length_take, List.length_drop, List.length_dropLast]; omega) | (simp only [*]; omega)); wtm_at "fl") | exact FlL_nil | (refine FlL_cons ?_ ?_ <;> wtm_at "fl") | (refine FlL_app ?_ ?_ <;> wtm_at "fl") | (refine FlL_map (fun _ _ => ?_); wtm_at "fl"))
local macro_rules | `(tactic| wtm_at "w") => `(tactic| ((try (with_reducible refine V_to ?_)); simp (maxSteps := 2000000) (disch := (first | omega | assumption | (refine tv_nn ?_; omega) | (refine tv_lt ?_; omega) | (refine tv_na ?_ ?_ <;> omega) | (wtm_at "fl") | (wtm_at "sz") | (simp only [List.length_map, List.length_range, List.length_cons, List.length_nil, List.length_append, List.length_set, List.length_reverse, List.length_take, List.length_drop, List.length_dropLast]; omega))) only [true_implies, false_implies, implies_true, not_true_eq_false, ne_eq, Int.reduceEq, Int.reduceNeg, Int.reduceToNat, reduceCtorEq, Bool.not_true, Bool.not_false, Classical.not_not, Int.toNat_natCast, MS.rngList_len, Nat.zero_le, List.contains_nil, Bool.and_true, Bool.true_and, Bool.and_false, Bool.false_and, List.map_nil, List.append_nil, Nat.reduceLT, Nat.reduceLeDiff, Int.reduceLT, Int.reduceLE, Nat.reduceMul, Int.reduceMul, Int.reduceAdd, Int.reduceSub, List.length_cons, List.length_nil, Nat.reduceAdd, Nat.reduceSub, Nat.zero_add, List.getElem?_cons_zero, List.getElem?_cons_succ, List.contains_cons, Nat.reduceBEq, Bool.or_false, Bool.or_true, Bool.false_or, outB_0, outB_1, outB_2, outB_3, outB_4, outB_5, outB_6, outB_7, outB_8, eq_ss, eq_nn, X_non, X_bl, T_bl, X_int, X_str, X_var, T_var, X_gl, X_tup, X_lst, X_bin, X_neg, X_cmp, T_cmp, X_chain, T_chain, X_isN', T_isN, isNon_non, isNon_int, isNon_tup, isNon_str, isNon_bl, eqt, eqf, X_isB, T_isB, X_ite, X_idx, T_idx, X_slT, X_slF, X_slB, X_rev, X_call, T_call, X_bi, T_bi, X_pop, X_popAt, X_mt, T_mt, X_rng, T_bin, X_not, T_not, X_and, T_and, X_or, T_or, V_nil, V_cons, R_nil, R_cons, AV_nil, AV_cons, OV_nil, OV_cons, A_nil, A_cons, O_nil, O_cons, S_asg, S_asgT, S_par, S_setI, S_aug, S_app, S_revI, S_expr, S_ret, S_retN, S_ite, S_for, S_while, S_brk, S_pass, S_kill, V_some, V_none, V_bind, V_map, V_ite, get0, getS, List.set_cons_zero, List.set_cons_succ, fin_f, fin_t, tst_eq, blR_bl, pk_val, pk_own, pk_ref, fz_val, fz_own, fz_ref, bindR_val, bindR_own, bindR_ref, intD_int, tru_bl, tru_int, tru_vl, tru_tup, tru_fl, tru_non, pks, bT_nm, bT_tp, setAll, bindRs, unref, wipe, unlock, itR, callB, refs, argB, argB1, backB, back1, noRef, augC, add_i, sub_i, badd_i, badd_t, bsub_i, c_eq, c_ne, c_lt, c_le, c_gt, c_ge, c_in_t, c_in_l, c_nin_t, c_nin_l, dok_l, dok_r, dep_int, dep_bl, dep_non, dep_str, eq_ii, eq_bb, b_len_t, b_len_v, b_len_f, b_tup_t, b_tup_v, b_tup_f, b_lst_t, b_lst_v, b_lst_f, b_min2, b_max2, b_abs, b_int_i, b_int_b, b_isB, b_isI, b_isS, b_isT, b_sum_v, b_sum_t, b_any_v, b_all_v, popL, outR_val, outR_own, outR_ref, List.nodup_nil, List.nodup_cons, List.not_mem_nil, not_false_eq_true, and_self, if_true, Bool.false_eq_true, if_false, List.mem_cons, or_false, true_and, and_true, decide_eq_true_eq, beq_iff_eq, Option.map_some, Option.bind_some, List.length_map, List.nil_append, List.cons_append, List.replicate, X_compR, X_compIfR, lim_ok, lim_filter, r1', r2', mul_i, bmul_i, fdiv_i, bfdiv_i, pow_i, mulOk_l, mulOk_r, divOk_of, powOk_of, modS, add_tS, add_lS, mul_lS, mul_tS, slM_t, slM_v, ← List.map_dropLast,  iT, iV, iTi, iVi, it0, it1, it2, it3, it4, iv0, iv1, iv2, iv3, iv_p, it_p, idxQ0, idxQ1, pairQ1, dok_Q, eq_Q, isNon_Q, bindT_Q, isT_Q, len_Q, b_gcd, mt_bits, mtK_bits, castQ0, castQ1, abs_Q, rev_t, rev_v, mn_v, mn_t, mx_v, mx_t, isin_bf, all_t, any_t, ← List.map_reverse, eqD_s, dok_s, iv2_i, iv3_i, max_cons, min_cons, idx_last, idx_lastT, setC_last, popI_eq, popC_ok, beq_self_eq_true, bne_self_eq_false, Int.reduceBEq, Int.reduceBNe, idx_hd, dok_ints, isin_nat, isin_int, ite_ints, appL_eq, appC_ok, setL_eq, setC_ok, setC_i, slT_t, slF_t, slT_v, slF_v, r3', tn1, tn2, ← List.map_take, ← List.map_drop, ints_f, sum_v, sum_t, any_v, all_v, if_and, if_or, Int.cast_ofNat_Int, Int.zero_add, Int.add_zero, Bool.and_eq_true, Bool.or_eq_true, Bool.not_eq_true, Bool.not_eq_eq_eq_not, decide_eq_false_iff_not, decide_true, decide_false, List.length_range, Bool.decide_eq_true, List.isEmpty_cons]; (try (with_reducible refine V_of ?_))))
local macro_rules | `(tactic| wtm_at "wx") => `(tactic| ((try (with_reducible refine V_to ?_)); simp (maxSteps := 2000000) (disch := (first | omega | assumption | (refine tv_nn ?_; omega) | (refine tv_lt ?_; omega) | (refine tv_na ?_ ?_ <;> omega) | (wtm_at "fl") | (wtm_at "sz") | (simp only [List.length_map, List.length_range, List.length_cons, List.length_nil, List.length_append, List.length_set, List.length_reverse, List.length_take, List.length_drop, List.length_dropLast]; omega))) only [*, true_implies, false_implies, implies_true, not_true_eq_false, ne_eq, Int.reduceEq, Int.reduceNeg, Int.reduceToNat, reduceCtorEq, Bool.not_true, Bool.not_false, Classical.not_not, Int.toNat_natCast, MS.rngList_len, Nat.zero_le, List.contains_nil, Bool.and_true, Bool.true_and, Bool.and_false, Bool.false_and, List.map_nil, List.append_nil, Nat.reduceLT, Nat.reduceLeDiff, Int.reduceLT, Int.reduceLE, Nat.reduceMul, Int.reduceMul, Int.reduceAdd, Int.reduceSub, List.length_cons, List.length_nil, Nat.reduceAdd, Nat.reduceSub, Nat.zero_add, List.getElem?_cons_zero, List.getElem?_cons_succ, List.contains_cons, Nat.reduceBEq, Bool.or_false, Bool.or_true, Bool.false_or, outB_0, outB_1, outB_2, outB_3, outB_4, outB_5, outB_6, outB_7, outB_8, eq_ss, eq_nn, X_non, X_bl, T_bl, X_int, X_str, X_var, T_var, X_gl, X_tup, X_lst, X_bin, X_neg, X_cmp, T_cmp, X_chain, T_chain, X_isN', T_isN, isNon_non, isNon_int, isNon_tup, isNon_str, isNon_bl, eqt, eqf, X_isB, T_isB, X_ite, X_idx, T_idx, X_slT, X_slF, X_slB, X_rev, X_call, T_call, X_bi, T_bi, X_pop, X_popAt, X_mt, T_mt, X_rng, T_bin, X_not, T_not, X_and, T_and, X_or, T_or, V_nil, V_cons, R_nil, R_cons, AV_nil, AV_cons, OV_nil, OV_cons, A_nil, A_cons, O_nil, O_cons, S_asg, S_asgT, S_par, S_setI, S_aug, S_app, S_revI, S_expr, S_ret, S_retN, S_ite, S_for, S_while, S_brk, S_pass, S_kill, V_some, V_none, V_bind, V_map, V_ite, get0, getS, List.set_cons_zero, List.set_cons_succ, fin_f, fin_t, tst_eq, blR_bl, pk_val, pk_own, pk_ref, fz_val, fz_own, fz_ref, bindR_val, bindR_own, bindR_ref, intD_int, tru_bl, tru_int, tru_vl, tru_tup, tru_fl, tru_non, pks, bT_nm, bT_tp, setAll, bindRs, unref, wipe, unlock, itR, callB, refs, argB, argB1, backB, back1, noRef, augC, add_i, sub_i, badd_i, badd_t, bsub_i, c_eq, c_ne, c_lt, c_le, c_gt, c_ge, c_in_t, c_in_l, c_nin_t, c_nin_l, dok_l, dok_r, dep_int, dep_bl, dep_non, dep_str, eq_ii, eq_bb, b_len_t, b_len_v, b_len_f, b_tup_t, b_tup_v, b_tup_f, b_lst_t, b_lst_v, b_lst_f, b_min2, b_max2, b_abs, b_int_i, b_int_b, b_isB, b_isI, b_isS, b_isT, b_sum_v, b_sum_t, b_any_v, b_all_v, popL, outR_val, outR_own, outR_ref, List.nodup_nil, List.nodup_cons, List.not_mem_nil, not_false_eq_true, and_self, if_true, Bool.false_eq_true, if_false, List.mem_cons, or_false, true_and, and_true, decide_eq_true_eq, beq_iff_eq, Option.map_some, Option.bind_some, List.length_map, List.nil_append, List.cons_append, List.replicate, X_compR, X_compIfR, lim_ok, lim_filter, r1', r2', mul_i, bmul_i, fdiv_i, bfdiv_i, pow_i, mulOk_l, mulOk_r, divOk_of, powOk_of, modS, add_tS, add_lS, mul_lS, mul_tS, slM_t, slM_v, ← List.map_dropLast,  iT, iV, iTi, iVi, it0, it1, it2, it3, it4, iv0, iv1, iv2, iv3, iv_p, it_p, idxQ0, idxQ1, pairQ1, dok_Q, eq_Q, isNon_Q, bindT_Q, isT_Q, len_Q, b_gcd, mt_bits, mtK_bits, castQ0, castQ1, abs_Q, rev_t, rev_v, mn_v, mn_t, mx_v, mx_t, isin_bf, all_t, any_t, ← List.map_reverse, eqD_s, dok_s, iv2_i, iv3_i, max_cons, min_cons, idx_last, idx_lastT, setC_last, popI_eq, popC_ok, beq_self_eq_true, bne_self_eq_false, Int.reduceBEq, Int.reduceBNe, idx_hd, dok_ints, isin_nat, isin_int, ite_ints, appL_eq, appC_ok, setL_eq, setC_ok, setC_i, slT_t, slF_t, slT_v, slF_v, r3', tn1, tn2, ← List.map_take, ← List.map_drop, ints_f, sum_v, sum_t, any_v, all_v, if_and, if_or, Int.cast_ofNat_Int, Int.zero_add, Int.add_zero, Bool.and_eq_true, Bool.or_eq_true, Bool.not_eq_true, Bool.not_eq_eq_eq_not, decide_eq_false_iff_not, decide_true, decide_false, List.length_range, Bool.decide_eq_true, List.isEmpty_cons]; (try (with_reducible refine V_of ?_))))
local macro_rules | `(tactic| wtm_at "s1") => `(tactic| (first | refine W_st ?_ | refine W_sn ?_) <;> (try wtm_at "wx"))
local macro_rules | `(tactic| wtm_at "go") => `(tactic| ((try simp only [bT_nm, bT_tp, bindT_Q, setAll, Option.bind_some, List.set_cons_zero, List.set_cons_succ]); (first | (wtm_at "s1") | (wtm_at "wx")); repeat (wtm_at "s1")))
local macro_rules | `(tactic| wtm_at "s1") => `(tactic| first | (refine W_sK fun _ _ => ?_; try wtm_at "wx") | (refine W_sn ?_; try wtm_at "wx") | (refine KK.nx (by assumption) ?_; try wtm_at "wx") | (refine KK.rt (by assumption) ?_; try wtm_at "wx") | (refine KK.bk (by assumption) ?_; try wtm_at "wx"))
local macro_rules | `(tactic| wtm_at "go") => `(tactic| ((try simp only [bT_nm, bT_tp, bindT_Q, setAll, Option.bind_some, List.set_cons_zero, List.set_cons_succ]); (first | (wtm_at "s1") | (wtm_at "wx")); repeat (wtm_at "s1")))
local macro_rules | `(tactic| wtm_at "ws") => `(tactic| ((wtm_at "s1"); repeat (wtm_at "s1")))
local macro_rules | `(tactic| wtm_at "tk") => `(tactic| ((try (with_reducible refine V_of ?_)); (first | refine take_q (by rfl) (by omega) (by omega) ?_ | refine cellA_q (by rfl) (by rfl) (by omega) (by omega) ?_); intros; (try wtm_at "wx")))
local macro_rules | `(tactic| wtm_at "g") => `(tactic| ((try simp only [bT_nm, bT_tp, bindT_Q, setAll, Option.bind_some, List.set_cons_zero, List.set_cons_succ]); (first | (wtm_at "tk") | (wtm_at "s1") | (wtm_at "wx")); repeat (first | (wtm_at "tk") | (wtm_at "s1"))))
local macro_rules | `(tactic| wtm_at "gg") => `(tactic| ((try (with_reducible refine V_of ?_)); (try wtm_at "g"); (try (refine ⟨fun _ => ?_, fun _ => ?_⟩ <;> wtm_at "gg"))))
local macro_rules | `(tactic| wtm_at "ifs") => `(tactic| ((repeat' split) <;> omega))

theorem size_W {n : Nat} (hn : 2 ≤ n) (ns l : List Int) (hns : ns.length ≤ 63) : W (callF G P n 16 [.cell (l.map D.int), .val (.fl (ns.map D.int))]) fun p => ∃ (v : Int) (l' : List Int), p = (.val (.int v), [.cell (l'.map D.int), .val (.fl (ns.map D.int))]) ∧ 0 ≤ v := by
  obtain ⟨n, rfl⟩ := fuel hn
  rw [callF_succ (fn := f_l_law_size) rfl]; refine run_ok rfl rfl ?_
  have i1 := @iF Int _ D.int ns
  have ml : ∀ x : Int, mulOk x (10 ^ 15) = true := fun x => mulOk_r (by decide)
  have ml2 : ∀ x : Int, mulOk x 1000 = true := fun x => mulOk_r (by decide)
  have h60 : ((10 : Int) ^ 60) ≠ 0 := by decide
  have f60 : ∀ x : Int, 0 ≤ x.fmod (10 ^ 60) := fun x => Int.fmod_nonneg_of_pos x (by decide)
  wtm_at "gg"
  all_goals refine ⟨_, _, rfl, ?_⟩
  all_goals first | omega | exact Int.add_nonneg (by assumption) (f60 _)
structure Ru (b : Int) (rule : List (Int × Int)) : Prop where
  s : ∀ k, k < rule.length → 0 ≤ (gt rule k).1 ∧ (gt rule k).1 ≤ 12 * 10 ^ 12 * k ∧ 0 ≤ (gt rule k).2 ∧ (gt rule k).2 ≤ 12 * 10 ^ 12 * k
  gap : ∀ k, k + 1 < rule.length → ∃ h m : Int, (gt rule (k + 1)).1 - (gt rule k).1 = b * h ∧ (gt rule (k + 1)).2 - (gt rule k).2 = b * m ∧ 1 ≤ h ∧ h ≤ 12 ∧ 0 ≤ m ∧ m ≤ 8
theorem bm {b v c : Int} (h1 : 0 ≤ b) (h2 : b ≤ 10 ^ 12) (h3 : 0 ≤ v) (h4 : v ≤ c) : 0 ≤ b * v ∧ b * v ≤ 10 ^ 12 * c := ⟨Int.mul_nonneg h1 h3, Int.mul_le_mul h2 h4 h3 (by decide)⟩
theorem Ru.snoc {b : Int} {rule : List (Int × Int)} (R : Ru b rule) (h1 : 0 ≤ b) (h2 : b ≤ 10 ^ 12) (l0 : 0 < rule.length) {h m : Int} (hh : 1 ≤ h ∧ h ≤ 12) (hm : 0 ≤ m ∧ m ≤ 8) : Ru b (rule ++ [((gt rule (rule.length - 1)).1 + b * h, (gt rule (rule.length - 1)).2 + b * m)]) := by
  have old : ∀ k, k < rule.length → gt (rule ++ [((gt rule (rule.length - 1)).1 + b * h, (gt rule (rule.length - 1)).2 + b * m)]) k = gt rule k := fun k hk => by rw [gt_append, if_pos hk]
  have new : gt (rule ++ [((gt rule (rule.length - 1)).1 + b * h, (gt rule (rule.length - 1)).2 + b * m)]) rule.length = ((gt rule (rule.length - 1)).1 + b * h, (gt rule (rule.length - 1)).2 + b * m) := by rw [gt_append, if_neg (by omega), Nat.sub_self]; rfl
  refine ⟨fun k hk => ?_, fun k hk => ?_⟩
  · rw [List.length_append, List.length_singleton] at hk
    rcases Nat.lt_succ_iff_lt_or_eq.mp hk with hk | rfl
    · rw [old k hk]; exact R.s k hk
    · rw [new]
      have s := R.s (rule.length - 1) (by omega)
      have b1 := bm h1 h2 (show 0 ≤ h by omega) hh.2
      have b2 := bm h1 h2 hm.1 (show m ≤ 12 by omega)
      dsimp only
      omega
  · rw [List.length_append, List.length_singleton] at hk
    rcases Nat.lt_succ_iff_lt_or_eq.mp hk with hk | hk
    · rw [old (k + 1) hk, old k (by omega)]; exact R.gap k hk
    · rw [hk, new, old k (by omega)]
      have : rule.length - 1 = k := by omega
      rw [this]
      exact ⟨h, m, by dsimp only; omega, by dsimp only; omega, hh.1, hh.2, hm.1, hm.2⟩
theorem Ru.rl {b : Int} {rule : List (Int × Int)} (R : Ru b rule) (h0 : 0 < b) (l0 : 0 < rule.length) (l1 : rule.length ≤ 10) : Rl rule := ⟨l0, l1, fun k hk => by
  have := R.s k hk
  omega, fun k hk => by
  obtain ⟨h, m, e1, e2, r⟩ := R.gap k hk
  exact ⟨b, h, m, e1, e2, h0, r⟩⟩
theorem Ru.zero {b : Int} : Ru b [(0, 0)] := ⟨fun k hk => by
  have : k = 0 := by simp at hk; exact hk
  subst this
  exact ⟨Int.le_refl _, Int.le_refl _, Int.le_refl _, Int.le_refl _⟩, fun k hk => by simp at hk⟩
theorem rule_W {n : Nat} (hn : 5 ≤ n) (ns l : List Int) (hns : ns.length ≤ 63) : W (callF G P n 17 [.cell (l.map D.int), .val (.fl (ns.map D.int))]) fun p => ∃ (rule : List (Int × Int)) (b : Int) (l' : List Int), p = (.val (.tup [tR rule, .int b]), [.cell (l'.map D.int), .val (.fl (ns.map D.int))]) ∧ 0 < b ∧ b ≤ 10 ^ 12 ∧ 0 < rule.length ∧ rule.length ≤ 5 ∧ Ru b rule := by
  obtain ⟨n, rfl⟩ := fuel hn
  rw [callF_succ (fn := f_l_law_rule) rfl]; refine run_ok rfl rfl ?_
  have h12 : ((10 : Int) ^ 12) ≠ 0 := by decide
  have f0 : ∀ x : Int, 0 ≤ x.fmod (10 ^ 12) := fun x => Int.fmod_nonneg_of_pos x (by decide)
  have f1 : ∀ x : Int, x.fmod (10 ^ 12) < 10 ^ 12 := fun x => Int.fmod_lt_of_pos x (by decide)
  wtm_at "g"
  refine W_mono (size_W (by omega) ns _ hns) ?_
  rintro p ⟨v, l2, rfl, hv⟩
  have hb := f0 v
  have hb1 := f1 v
  wtm_at "g"
  generalize hs : (if (_ : Int) = 0 then (1 : Int) else if (_ : Int) = 1 then (1 : Int) else _) = b
  replace hs : 0 < b ∧ b ≤ 10 ^ 12 := by subst hs; wtm_at "ifs"
  rename_i v lv v0 v1
  refine W_fXR (fun i (s : List (Int × Int) × List Int) => s.1.length = 1 + i ∧ Ru b s.1) (fun s e => (e.set 0 (.cell (s.2.map D.int))).set 3 (.cell (s.1.map pD))) ([(0, 0)], lv) ⟨rfl, Ru.zero⟩ (by rfl) ?_ ?_
  · rintro i ⟨rule, l⟩ hi ⟨hl, R⟩
    dsimp only at hl R ⊢
    have l0 : 0 < rule.length := by omega
    have l9 : rule.length ≤ 9 := by omega
    have sn := fun h m hh hm => @Ru.snoc b rule R (by omega) hs.2 l0 h m hh hm
    clear f0 f1 hb hb1
    unfold b_l_law_rule_1
    wtm_at "g"
    rename_i x lx x0 x1 y ly y0 y1 _ _
    have s9 := sn (1 + x) y ⟨by omega, by omega⟩ ⟨by omega, by omega⟩
    rw [hl] at s9
    exact ⟨(rule ++ [((gt rule (1 + i - 1)).1 + b * (1 + x), (gt rule (1 + i - 1)).2 + b * y)], ly), ⟨by dsimp only; rw [List.length_append, List.length_singleton, hl]; omega, s9⟩, by dsimp only; rw [List.map_append]; rfl⟩
  · rintro ⟨rule, l⟩ ⟨hl, R⟩
    dsimp only at hl R ⊢
    wtm_at "g"
    exact ⟨rule, b, l, rfl, hs.1, hs.2, by omega, by omega, R⟩
theorem lins_W {n : Nat} (hn : 3 ≤ n) (l : List Int) (k b : Int) (h0 : 0 ≤ k) (hk : k ≤ 10) (hb : 0 ≤ b) : W (callF G P n 18 [.cell (l.map D.int), .val (.int k), .val (.int b)]) fun p => ∃ (ins l' : List Int), p = (.val (tI ins), [.cell (l'.map D.int), .val (.int k), .val (.int b)]) ∧ ins.length = k.toNat ∧ ∀ x ∈ ins, 0 ≤ x ∧ x ≤ b * 14 := by
  obtain ⟨n, rfl⟩ := fuel hn
  rw [callF_succ (fn := f_l_law_ins) rfl]; refine run_ok rfl rfl ?_
  wtm_at "g"
  refine W_cJ 0 D.int (fun _ x => 0 ≤ x ∧ x ≤ b * 14) rfl (by simp) (by decide) ?_ ?_
  · intro i a m _ _
    wtm_at "g"
    rename_i v lv v0 v1
    have v14 : v ≤ 14 := by
      revert v1
      (repeat' split) <;> intro v1 <;> omega
    clear v1
    exact ⟨_, _, rfl, ⟨Int.mul_nonneg hb v0, Int.mul_le_mul_of_nonneg_left v14 hb⟩, rfl⟩
  · intro ms l4 hl hp
    rw [List.length_range] at hl
    wtm_at "g"
    exact ⟨ms, l4, rfl, hl, mem_of_at hp⟩
/-! ### the rule at its end -/
theorem up_rule {rule : List (Int × Int)} (R : Rl rule) : ∀ d k, k + d < rule.length → (gt rule k).1 + d ≤ (gt rule (k + d)).1
  | 0, k, _ => by simp
  | d + 1, k, h => by
    have ih := up_rule R d k (by omega)
    obtain ⟨b, hh, m, e1, e2, hb, h1, _⟩ := R.gap (k + d) (by omega)
    have : 1 ≤ b * hh := by
      have := Int.mul_le_mul (show 1 ≤ b by omega) h1 (by decide) (by omega)
      rw [Int.mul_one] at this; exact this
    rw [show k + (d + 1) = k + d + 1 by omega]
    omega
end K30

set_option exponentiation.threshold 100000
namespace K30
open Mini PL
/-! ### laws of the lake -/
variable {rule : List (Int × Int)} {x y : Rat} {ins : List Int}
structure Rn (rule : List (Int × Int)) : Prop where
  r : Rl rule
  h0 : (gt rule 0).1 = 0
  nn : ∀ k, k < rule.length → 0 ≤ (gt rule k).2
theorem Ru.rn {b : Int} (R : Ru b rule) (h0 : 0 < b) (l0 : 0 < rule.length) (l1 : rule.length ≤ 10) : Rn rule := ⟨R.rl h0 l0 l1, by have := R.s 0 l0; omega, fun k hk => (R.s k hk).2.2.1⟩
theorem gv_cases (rule : List (Int × Int)) (x : Rat) : (∃ i, i < rule.length - 1 ∧ (∀ j, j < i → cnd rule x j = false) ∧ cnd rule x i = true ∧ gv rule x = val rule x i) ∨ ((∀ j, j < rule.length - 1 → cnd rule x j = false) ∧ gv rule x = ((gt rule (rule.length - 1)).2 : Rat)) := by
  have key : ∀ m, m ≤ rule.length - 1 → (∃ i, i < m ∧ (∀ j, j < i → cnd rule x j = false) ∧ cnd rule x i = true) ∨ ∀ j, j < m → cnd rule x j = false := by
    intro m
    induction m with
    | zero => intro _; exact .inr fun j h => by omega
    | succ m ih =>
      intro hm
      rcases ih (by omega) with ⟨i, h1, h2, h3⟩ | h
      · exact .inl ⟨i, by omega, h2, h3⟩
      · cases hc : cnd rule x m with
        | true => exact .inl ⟨m, by omega, h, hc⟩
        | false =>
          refine .inr fun j hj => ?_
          rcases Nat.lt_succ_iff_lt_or_eq.mp hj with hj | rfl
          · exact h j hj
          · exact hc
  rcases key _ (Nat.le_refl _) with ⟨i, h1, h2, h3⟩ | h
  · exact .inl ⟨i, h1, h2, h3, gv_some h2 h1 h3⟩
  · exact .inr ⟨h, gv_none h⟩
theorem cnd_t {k : Nat} (h : cnd rule x k = true) : x ≤ ((gt rule (k + 1)).1 : Rat) := by
  unfold cnd at h
  rw [Bool.not_eq_true', decide_eq_false_iff_not] at h
  exact Rat.not_lt.mp h
theorem cnd_f {k : Nat} (h : cnd rule x k = false) : ((gt rule (k + 1)).1 : Rat) < x := by
  unfold cnd at h
  rw [Bool.not_eq_false', decide_eq_true_eq] at h
  exact h
theorem sl_nn (R : Rl rule) {k : Nat} (hk : k + 1 < rule.length) : 0 ≤ sl rule k ∧ sl rule k * (((gt rule (k + 1)).1 : Rat) - ((gt rule k).1 : Rat)) = ((gt rule (k + 1)).2 : Rat) - ((gt rule k).2 : Rat) ∧ ((gt rule k).1 : Rat) < ((gt rule (k + 1)).1 : Rat) := by
  obtain ⟨b, h, m, e1, e2, hb, h1, h2, m1, m2⟩ := R.gap k hk
  have hz := (R.sl hk).2
  have p1 : 0 < (gt rule (k + 1)).1 - (gt rule k).1 := by rw [e1]; exact Int.mul_pos hb (by omega)
  have p2 : 0 ≤ (gt rule (k + 1)).2 - (gt rule k).2 := by rw [e2]; exact Int.mul_nonneg (by omega) m1
  have q1 := castpos p1
  have q2 : (0 : Rat) ≤ (((gt rule (k + 1)).2 - (gt rule k).2 : Int) : Rat) := by
    have := Rat.intCast_le_intCast.mpr p2
    exact this
  have q3 : ((gt rule k).1 : Rat) < ((gt rule (k + 1)).1 : Rat) := Rat.intCast_lt_intCast.mpr (by omega)
  unfold sl
  rw [divInt_div, ← Rat.intCast_sub, ← Rat.intCast_sub]
  generalize (((gt rule (k + 1)).1 - (gt rule k).1 : Int) : Rat) = d at *
  generalize (((gt rule (k + 1)).2 - (gt rule k).2 : Int) : Rat) = e at *
  have d0 : ¬ d = 0 := by grind
  refine ⟨?_, by grind, q3⟩
  rw [← Rat.not_lt, Rat.div_lt_iff q1, Rat.zero_mul, Rat.not_lt]
  exact q2
/-- where the giving is read off -/
theorem seg_low (R : Rn rule) (hx : 0 ≤ x) {i : Nat} (h : ∀ j, j < i → cnd rule x j = false) : ((gt rule i).1 : Rat) ≤ x := by
  rcases Nat.eq_zero_or_pos i with rfl | hi
  · rw [R.h0]; exact hx
  · have := cnd_f (h (i - 1) (by omega))
    rw [show i - 1 + 1 = i by omega] at this
    grind
theorem gv_nn (R : Rn rule) (hx : 0 ≤ x) : 0 ≤ gv rule x := by
  rcases gv_cases rule x with ⟨i, h1, h2, h3, h4⟩ | ⟨h1, h2⟩
  · rw [h4]
    have lo := seg_low R hx h2
    have s := (sl_nn R.r (show i + 1 < rule.length by omega)).1
    have n := Rat.intCast_le_intCast.mpr (R.nn i (by omega))
    have := Rat.mul_nonneg (show 0 ≤ x - ((gt rule i).1 : Rat) by grind) s
    unfold val
    have e0 : ((0 : Int) : Rat) = 0 := rfl
    rw [e0] at n
    grind
  · rw [h2]
    have n := Rat.intCast_le_intCast.mpr (R.nn (rule.length - 1) (by have := R.r.l0; omega))
    have e0 : ((0 : Int) : Rat) = 0 := rfl
    rw [e0] at n
    exact n
theorem goes_le {own : Int} : goes rule x own ≤ x + (own : Rat) ∧ goes rule x own ≤ gv rule (x + (own : Rat)) := by
  unfold goes; split <;> grind
theorem goes_nn (R : Rn rule) {own : Int} (hx : 0 ≤ x + (own : Rat)) : 0 ≤ goes rule x own := by
  have := gv_nn R hx
  unfold goes; split <;> grind
theorem own_nn {own : Int} (h : 0 ≤ own) (hx : 0 ≤ x) : 0 ≤ x + (own : Rat) := by
  have := Rat.intCast_le_intCast.mpr h
  have e0 : ((0 : Int) : Rat) = 0 := rfl
  rw [e0] at this
  grind
theorem hs_nn (R : Rn rule) (hx : 0 ≤ x) (hi : ∀ a ∈ ins, 0 ≤ a) : ∀ k, k ≤ ins.length → 0 ≤ hs rule x ins k
  | 0, _ => hx
  | k + 1, h => by
    have := (@goes_le rule (hs rule x ins k) (gt ins k)).1
    rw [hs]; grind
theorem gs_nn (R : Rn rule) (hx : 0 ≤ x) (hi : ∀ a ∈ ins, 0 ≤ a) {k : Nat} (hk : k < ins.length) : 0 ≤ gs rule x ins k := goes_nn R (own_nn (hi _ (gt_mem hk)) (hs_nn R hx hi k (by omega)))
theorem hs_sum {k : Nat} : hs rule x ins (k + 1) + gs rule x ins k = hs rule x ins k + ((gt ins k : Int) : Rat) := by rw [hs, gs]; grind
theorem gs_ne {k : Nat} (h : ¬ gs rule x ins k = gv rule (hs rule x ins k + ((gt ins k : Int) : Rat))) : hs rule x ins (k + 1) = 0 := by
  rw [hs]
  unfold gs at h
  unfold goes at *
  split at h
  · rename_i h2; rw [if_pos h2]; grind
  · exact absurd rfl h
theorem hs_cut {c : Nat} (hc : c ≤ ins.length) : ∀ k, c + k ≤ ins.length → hs rule (hs rule x ins c) (ins.drop c) k = hs rule x ins (c + k)
  | 0, _ => rfl
  | k + 1, h => by
    have hg : gt (ins.drop c) k = gt ins (c + k) := gt_eq (by rw [List.getElem?_drop]; exact gt_some (by omega))
    rw [hs, hs_cut hc k (by omega), hg]; rfl
theorem gs_cut {c k : Nat} (h : c + k < ins.length) : gs rule (hs rule x ins c) (ins.drop c) k = gs rule x ins (c + k) := by
  have hg : gt (ins.drop c) k = gt ins (c + k) := gt_eq (by rw [List.getElem?_drop]; exact gt_some (by omega))
  unfold gs
  rw [hs_cut (by omega) k (by omega), hg]
theorem map_drop {f : Nat → Rat} {n c : Nat} : ((List.range n).map f).drop c = (List.range (n - c)).map fun k => f (c + k) := by
  apply List.ext_getElem?
  intro j
  rw [List.getElem?_drop, List.getElem?_map, List.getElem?_map]
  by_cases hj : c + j < n
  · rw [List.getElem?_range hj, List.getElem?_range (by omega)]; rfl
  · rw [List.getElem?_eq_none (by rw [List.length_range]; omega), List.getElem?_eq_none (by rw [List.length_range]; omega)]; rfl
theorem aft_cut {c : Nat} (hc : c ≤ ins.length) : aft rule (hs rule x ins c) (ins.drop c) = (aft rule x ins).drop c := by
  unfold aft
  rw [map_drop, List.length_drop]
  refine List.map_congr_left fun k hk => ?_
  have := List.mem_range.mp hk
  exact hs_cut hc (k + 1) (by omega)
theorem gos_cut {c : Nat} (hc : c ≤ ins.length) : gos rule (hs rule x ins c) (ins.drop c) = (gos rule x ins).drop c := by
  unfold gos
  rw [map_drop, List.length_drop]
  refine List.map_congr_left fun k hk => ?_
  have := List.mem_range.mp hk
  exact gs_cut (by omega)
theorem calm_le (R : Rn rule) (hx : 0 ≤ x) {k : Nat} (hk : k < 3) : hs rule x [0, 0, 0] (k + 1) ≤ hs rule x [0, 0, 0] k := by
  have nn := hs_nn (ins := [0, 0, 0]) R hx (fun a ha => by simp at ha; omega) k (by show k ≤ 3; omega)
  have g0 : gt ([0, 0, 0] : List Int) k = 0 := by
    rcases (by omega : k = 0 ∨ k = 1 ∨ k = 2) with rfl | rfl | rfl <;> rfl
  rw [hs, g0]
  have e0 : ((0 : Int) : Rat) = 0 := rfl
  have := goes_nn R (own := 0) (own_nn (Int.le_refl 0) nn)
  rw [e0]
  grind
theorem gv_one (x : Rat) : gv [(0, 0)] x = 0 := rfl
theorem one_hs (hx : 0 ≤ x) {b : Int} (hb : 0 ≤ b) : aft [(0, 0)] x [b, 0] = [x + (b : Rat), x + (b : Rat)] := by
  have e0 : ((0 : Int) : Rat) = 0 := rfl
  have st : ∀ (z : Rat) (own : Int), 0 ≤ z + (own : Rat) → goes [(0, 0)] z own = 0 := fun z own h => by
    unfold goes
    rw [gv_one, if_neg (Rat.not_lt.mpr h)]
  have n1 := own_nn hb hx
  have h1 : hs [(0, 0)] x [b, 0] 1 = x + (b : Rat) := by
    show x + (b : Rat) - goes [(0, 0)] x b = _
    rw [st _ _ n1]; grind
  have h2 : hs [(0, 0)] x [b, 0] 2 = x + (b : Rat) := by
    show hs [(0, 0)] x [b, 0] 1 + ((0 : Int) : Rat) - goes [(0, 0)] (hs [(0, 0)] x [b, 0] 1) 0 = _
    rw [h1, st _ _ (by rw [e0]; grind), e0]; grind
  show [hs [(0, 0)] x [b, 0] 1, hs [(0, 0)] x [b, 0] 2] = _
  rw [h1, h2]
/-! ### a gentle rule -/
def gentle (rule : List (Int × Int)) : Prop := ∀ k, k + 1 < rule.length → (gt rule (k + 1)).2 - (gt rule k).2 ≤ (gt rule (k + 1)).1 - (gt rule k).1
def F (rule : List (Int × Int)) (k : Nat) : Rat := ((gt rule k).1 : Rat) - ((gt rule k).2 : Rat)
theorem F_up (g : gentle rule) : ∀ d k, k + d < rule.length → F rule k ≤ F rule (k + d)
  | 0, k, _ => Rat.le_refl
  | d + 1, k, h => by
    have ih := F_up g d k (by omega)
    have := Rat.intCast_le_intCast.mpr (g (k + d) (by omega))
    rw [Rat.intCast_sub, Rat.intCast_sub] at this
    unfold F at *
    rw [show k + (d + 1) = k + d + 1 by omega]
    grind
theorem sl_1 (R : Rl rule) (g : gentle rule) {k : Nat} (hk : k + 1 < rule.length) : sl rule k ≤ 1 := by
  obtain ⟨h1, h2, h3⟩ := sl_nn R hk
  have := Rat.intCast_le_intCast.mpr (g k hk)
  rw [Rat.intCast_sub, Rat.intCast_sub] at this
  rw [← Rat.not_lt]
  intro h
  have := Rat.mul_lt_mul_of_pos_right h (show 0 < ((gt rule (k + 1)).1 : Rat) - ((gt rule k).1 : Rat) by grind)
  grind
/-- within a piece, what is kept lies between its ends -/
theorem seg_F (R : Rl rule) (g : gentle rule) {i : Nat} (hi : i + 1 < rule.length) : (x ≤ ((gt rule (i + 1)).1 : Rat) → x - val rule x i ≤ F rule (i + 1)) ∧ (((gt rule i).1 : Rat) ≤ x → F rule i ≤ x - val rule x i) ∧ (x ≤ y → x - val rule x i ≤ y - val rule y i) := by
  obtain ⟨h1, h2, h3⟩ := sl_nn R hi
  have h4 := sl_1 R g hi
  unfold val F
  generalize ((gt rule i).1 : Rat) = a at *
  generalize ((gt rule i).2 : Rat) = b at *
  generalize ((gt rule (i + 1)).1 : Rat) = c at *
  generalize ((gt rule (i + 1)).2 : Rat) = d at *
  generalize sl rule i = s at *
  refine ⟨fun h => ?_, fun h => ?_, fun h => ?_⟩
  · have := Rat.mul_nonneg (show 0 ≤ c - x by grind) (show 0 ≤ 1 - s by grind)
    grind
  · have := Rat.mul_nonneg (show 0 ≤ x - a by grind) (show 0 ≤ 1 - s by grind)
    grind
  · have := Rat.mul_nonneg (show 0 ≤ y - x by grind) (show 0 ≤ 1 - s by grind)
    grind
theorem kept_mono (R : Rn rule) (g : gentle rule) (hx : 0 ≤ x) (hxy : x ≤ y) : x - gv rule x ≤ y - gv rule y := by
  have l0 := R.r.l0
  rcases gv_cases rule y with ⟨j, j1, j2, j3, j4⟩ | ⟨j2, j4⟩
  · have yl := cnd_t j3
    rcases gv_cases rule x with ⟨i, i1, i2, i3, i4⟩ | ⟨i2, i4⟩
    · have hij : i ≤ j := by
        rcases Nat.lt_or_ge j i with h | h
        · have := cnd_f (i2 j h); grind
        · exact h
      rw [i4, j4]
      rcases Nat.eq_or_lt_of_le hij with rfl | h
      · exact (seg_F R.r g (by omega)).2.2 hxy
      · have a := (seg_F (y := y) R.r g (show i + 1 < rule.length by omega)).1 (cnd_t i3)
        have b := (seg_F (x := y) (y := y) R.r g (show j + 1 < rule.length by omega)).2.1 (seg_low R (by grind) j2)
        have c := F_up g (j - (i + 1)) (i + 1) (by omega)
        rw [show i + 1 + (j - (i + 1)) = j by omega] at c
        grind
    · have := cnd_f (i2 j j1); grind
  · rcases gv_cases rule x with ⟨i, i1, i2, i3, i4⟩ | ⟨i2, i4⟩
    · have a := (seg_F (y := y) R.r g (show i + 1 < rule.length by omega)).1 (cnd_t i3)
      have c := F_up g (rule.length - 1 - (i + 1)) (i + 1) (by omega)
      rw [show i + 1 + (rule.length - 1 - (i + 1)) = rule.length - 1 by omega] at c
      have b := seg_low R (x := y) (by grind) j2
      rw [i4, j4]
      unfold F at a c
      grind
    · rw [i4, j4]; grind
theorem step_mono (R : Rn rule) (g : gentle rule) {own : Int} (hx : 0 ≤ x + (own : Rat)) (hxy : x ≤ y) : x + (own : Rat) - goes rule x own ≤ y + (own : Rat) - goes rule y own := by
  have := kept_mono R g hx (show x + (own : Rat) ≤ y + (own : Rat) by grind)
  unfold goes
  split <;> split <;> grind
theorem hs_mono (R : Rn rule) (g : gentle rule) (hx : 0 ≤ x) (hxy : x ≤ y) (hi : ∀ a ∈ ins, 0 ≤ a) : ∀ k, k ≤ ins.length → hs rule x ins k ≤ hs rule y ins k
  | 0, _ => hxy
  | k + 1, h => by
    rw [hs, hs]
    exact step_mono R g (own_nn (hi _ (gt_mem (by omega))) (hs_nn R hx hi k (by omega))) (hs_mono R g hx hxy hi k (by omega))
end K30

set_option exponentiation.threshold 100000
namespace K30
open Mini PL
/-! ### laws of the least size -/
variable {ins : List Int} {out : Int}
def pl (ins : List Int) (out s : Int) : Int := s - lst ins out
theorem lst_le {a b : List Int} {x y : Int} (hl : a.length = b.length) (h : ∀ f l, f ≤ l → l ≤ a.length → dv a x f l ≤ dv b y f l) : lst a x ≤ lst b y := by
  obtain ⟨f, l, h1, h2, h3⟩ := lst_ex (ins := a) (out := x)
  rw [h3]
  exact Int.le_trans (h f l h1 h2) (lst_ge h1 (by omega))
theorem lst_up {x y : Int} (h : x ≤ y) : lst ins x ≤ lst ins y := lst_le rfl fun f l h1 h2 => by
  unfold dv
  have := Int.mul_le_mul_of_nonneg_right h (show 0 ≤ (l : Int) - (f : Int) by omega)
  omega
theorem gt_map' {g : Int → Int} {k : Nat} (h : k < ins.length) : gt (ins.map g) k = g (gt ins k) := gt_map h
theorem pre_add {b : Int} : ∀ i, i ≤ ins.length → pre (ins.map fun x => x + b) i = pre ins i + b * i
  | 0, _ => by show (0 : Int) = 0 + b * 0; omega
  | i + 1, h => by
    rw [pre_s (by rw [List.length_map]; omega), pre_s (by omega), pre_add i (by omega), gt_map' (by omega), show ((i + 1 : Nat) : Int) = (i : Int) + 1 from rfl, Int.mul_add, Int.mul_one]
    omega
theorem pre_mul {t : Int} : ∀ i, i ≤ ins.length → pre (ins.map fun x => t * x) i = t * pre ins i
  | 0, _ => by show (0 : Int) = t * 0; rw [Int.mul_zero]
  | i + 1, h => by
    rw [pre_s (by rw [List.length_map]; omega), pre_s (by omega), pre_mul i (by omega), gt_map' (by omega), Int.mul_add]
theorem lst_add {b : Int} : lst (ins.map fun x => x + b) (out + b) = lst ins out := by
  have e : ∀ f l, f ≤ l → l ≤ ins.length → dv (ins.map fun x => x + b) (out + b) f l = dv ins out f l := fun f l h1 h2 => by
    unfold dv
    rw [pre_add l h2, pre_add f (by omega), Int.add_mul, Int.mul_sub b]
    omega
  refine Int.le_antisymm (lst_le (List.length_map _) fun f l h1 h2 => Int.le_of_eq (e f l h1 (by rw [List.length_map] at h2; exact h2))) (lst_le (List.length_map _).symm fun f l h1 h2 => Int.le_of_eq (e f l h1 h2).symm)
theorem lst_one : lst (ins.map fun x => x + 1) out ≤ lst ins out := by
  refine lst_le (List.length_map _) fun f l h1 h2 => ?_
  rw [List.length_map] at h2
  unfold dv
  rw [pre_add l h2, pre_add f (by omega)]
  omega
theorem lst_mul {t : Int} (ht : 0 ≤ t) : lst (ins.map fun x => t * x) (t * out) = t * lst ins out := by
  have e : ∀ f l, f ≤ l → l ≤ ins.length → dv (ins.map fun x => t * x) (t * out) f l = t * dv ins out f l := fun f l h1 h2 => by
    unfold dv
    rw [pre_mul l h2, pre_mul f (by omega), Int.mul_sub t (out * _), Int.mul_sub t (pre ins l), Int.mul_assoc]
  refine Int.le_antisymm ?_ ?_
  · obtain ⟨f, l, h1, h2, h3⟩ := lst_ex (ins := ins.map fun x => t * x) (out := t * out)
    rw [List.length_map] at h2
    rw [h3, e f l h1 h2]
    exact Int.mul_le_mul_of_nonneg_left (lst_ge h1 h2) ht
  · obtain ⟨f, l, h1, h2, h3⟩ := lst_ex (ins := ins) (out := out)
    rw [h3, ← e f l h1 h2]
    exact lst_ge h1 (by rw [List.length_map]; exact h2)
theorem lst_0 (h : ∀ k, k < ins.length → out ≤ gt ins k) : lst ins out = 0 := by
  have l0 : ∀ i, i ≤ ins.length → lk ins out i = 0 := fun i => by
    induction i with
    | zero => intro _; rfl
    | succ i ih =>
      intro hi
      have := ih (by omega)
      have := h i (by omega)
      show max 0 (lk ins out i + out - gt ins i) = 0
      omega
  have b0 : ∀ i, i ≤ ins.length → bs ins out i = 0 := fun i => by
    induction i with
    | zero => intro _; rfl
    | succ i ih =>
      intro hi
      have := ih (by omega)
      have := l0 (i + 1) hi
      show max (bs ins out i) (lk ins out (i + 1)) = 0
      omega
  exact b0 _ (Nat.le_refl _)
theorem lst_pos {k : Nat} (hk : k < ins.length) (h : gt ins k < out) : 0 < lst ins out := by
  have := lst_ge (ins := ins) (out := out) (show k ≤ k + 1 by omega) (by omega)
  rw [dv_s hk, dv_0] at this
  omega
/-- what the days lack, one by one -/
theorem lst_sum : lst ins out ≤ (ins.map fun x => max 0 (out - x)).sum := by
  have sp : ∀ i, i ≤ ins.length → 0 ≤ pre (ins.map fun x => max 0 (out - x)) i ∧ lk ins out i ≤ pre (ins.map fun x => max 0 (out - x)) i ∧ bs ins out i ≤ pre (ins.map fun x => max 0 (out - x)) i := fun i => by
    induction i with
    | zero => intro _; exact ⟨Int.le_refl _, Int.le_refl _, Int.le_refl _⟩
    | succ i ih =>
      intro hi
      obtain ⟨h1, h2, h3⟩ := ih (by omega)
      rw [pre_s (by rw [List.length_map]; omega), gt_map' (by omega)]
      have e1 : lk ins out (i + 1) = max 0 (lk ins out i + out - gt ins i) := rfl
      have e2 : bs ins out (i + 1) = max (bs ins out i) (lk ins out (i + 1)) := rfl
      omega
  have := (sp ins.length (Nat.le_refl _)).2.2
  unfold pre at this
  rw [List.take_of_length_le (by rw [List.length_map]; omega)] at this
  exact this
theorem pre_rev : ∀ i, i ≤ ins.length → pre ins.reverse i = pre ins ins.length - pre ins (ins.length - i) := fun i hi => by
  have h1 := List.take_append_drop (ins.length - i) ins
  have h2 : ins.sum = (ins.take (ins.length - i)).sum + (ins.drop (ins.length - i)).sum := by rw [← List.sum_append, h1]
  unfold pre
  rw [List.take_reverse, List.sum_reverse, List.take_length]
  omega
theorem lst_rev : lst ins.reverse out = lst ins out := by
  have e : ∀ f l, f ≤ l → l ≤ ins.length → dv ins.reverse out f l = dv ins out (ins.length - l) (ins.length - f) := fun f l h1 h2 => by
    unfold dv
    rw [pre_rev l h2, pre_rev f (by omega), show (((ins.length - f : Nat) : Int)) - ((ins.length - l : Nat) : Int) = (l : Int) - (f : Int) by omega]
    omega
  refine Int.le_antisymm ?_ ?_
  · obtain ⟨f, l, h1, h2, h3⟩ := lst_ex (ins := ins.reverse) (out := out)
    rw [List.length_reverse] at h2
    rw [h3, e f l h1 h2]
    exact lst_ge (by omega) (by omega)
  · obtain ⟨f, l, h1, h2, h3⟩ := lst_ex (ins := ins) (out := out)
    have := e (ins.length - l) (ins.length - f) (by omega) (by omega)
    rw [show ins.length - (ins.length - f) = f by omega, show ins.length - (ins.length - l) = l by omega] at this
    rw [h3, ← this]
    exact lst_ge (by omega) (by rw [List.length_reverse]; omega)
/-- the release is told by its two neighbours -/
theorem ev_eq {s t u : Int} (h1 : lst ins t ≤ s) (h2 : s < lst ins (u + 1)) : t ≤ u := by
  rcases Int.lt_or_le u t with h | h
  · have := lst_up (ins := ins) (show u + 1 ≤ t by omega)
    omega
  · exact h
end K30

set_option exponentiation.threshold 100000
namespace K30
open Mini PL
local macro_rules | `(tactic| wtm_at "sz0") => `(tactic| first | assumption | ((with_reducible refine @Sz_add ?a ?b _ _ ?h ?k); (case h => wtm_at "sz0"); (case k => wtm_at "sz0")) | ((with_reducible refine @Sz_sub ?a ?b _ _ ?h ?k); (case h => wtm_at "sz0"); (case k => wtm_at "sz0")) | ((with_reducible refine @Sz_mul ?a ?b _ _ ?h ?k); (case h => wtm_at "sz0"); (case k => wtm_at "sz0")) | ((with_reducible refine @Sz_neg ?a _ ?h); (case h => wtm_at "sz0")) | ((with_reducible refine @Sz_qabs ?a _ ?h); (case h => wtm_at "sz0")) | ((with_reducible refine Sz0 (b := 1) ?_); decide) | ((with_reducible refine Sz1 (b := 2) ?_); decide) | ((with_reducible refine Sz_int (b := 300) ?_ ?_) <;> first | decide | omega))
local macro_rules | `(tactic| wtm_at "sz") => `(tactic| first | assumption | (refine @Sz.mono ?a _ _ ?h ?l; (case h => wtm_at "sz0"); (case l => first | decide | omega)))
local macro_rules | `(tactic| wtm_at "fl") => `(tactic| first | exact Fl_int | exact Fl_bl | exact Fl_non | exact Fl_str | exact Fl_Q | assumption | (refine Fl_ite ?_ ?_ <;> wtm_at "fl") | (refine Fl_hd (fun _ _ => ?_) ?_ <;> wtm_at "fl") | (refine Fl_map (fun _ _ => ?_) ?_; (wtm_at "fl"); (first | omega | (simp only [List.length_map, List.length_range, List.length_cons, List.length_nil, List.length_append, List.length_set, List.length_reverse, List.length_take, List.length_drop, List.length_dropLast]; omega) | (simp only [*]; omega))) | (refine Fl_tupL ?_ ?_; (first | omega | (simp only [List.length_map, List.length_range, List.length_cons, List.length_nil, List.length_append, List.length_set, List.length_reverse, List.length_take, List.length_drop, List.length_dropLast]; omega) | (simp only [*]; omega)); wtm_at "fl") | exact FlL_nil | (refine FlL_cons ?_ ?_ <;> wtm_at "fl") | (refine FlL_app ?_ ?_ <;> wtm_at "fl") | (refine FlL_map (fun _ _ => ?_); wtm_at "fl"))
local macro_rules | `(tactic| wtm_at "w") => `(tactic| ((try (with_reducible refine V_to ?_)); simp (maxSteps := 2000000) (disch := (first | omega | assumption | (refine tv_nn ?_; omega) | (refine tv_lt ?_; omega) | (refine tv_na ?_ ?_ <;> omega) | (wtm_at "fl") | (wtm_at "sz") | (simp only [List.length_map, List.length_range, List.length_cons, List.length_nil, List.length_append, List.length_set, List.length_reverse, List.length_take, List.length_drop, List.length_dropLast]; omega))) only [true_implies, false_implies, implies_true, not_true_eq_false, ne_eq, Int.reduceEq, Int.reduceNeg, Int.reduceToNat, reduceCtorEq, Bool.not_true, Bool.not_false, Classical.not_not, Int.toNat_natCast, MS.rngList_len, Nat.zero_le, List.contains_nil, Bool.and_true, Bool.true_and, Bool.and_false, Bool.false_and, List.map_nil, List.append_nil, Nat.reduceLT, Nat.reduceLeDiff, Int.reduceLT, Int.reduceLE, Nat.reduceMul, Int.reduceMul, Int.reduceAdd, Int.reduceSub, List.length_cons, List.length_nil, Nat.reduceAdd, Nat.reduceSub, Nat.zero_add, List.getElem?_cons_zero, List.getElem?_cons_succ, List.contains_cons, Nat.reduceBEq, Bool.or_false, Bool.or_true, Bool.false_or, outB_0, outB_1, outB_2, outB_3, outB_4, outB_5, outB_6, outB_7, outB_8, eq_ss, eq_nn, X_non, X_bl, T_bl, X_int, X_str, X_var, T_var, X_gl, X_tup, X_lst, X_bin, X_neg, X_cmp, T_cmp, X_chain, T_chain, X_isN', T_isN, isNon_non, isNon_int, isNon_tup, isNon_str, isNon_bl, eqt, eqf, X_isB, T_isB, X_ite, X_idx, T_idx, X_slT, X_slF, X_slB, X_rev, X_call, T_call, X_bi, T_bi, X_pop, X_popAt, X_mt, T_mt, X_rng, T_bin, X_not, T_not, X_and, T_and, X_or, T_or, V_nil, V_cons, R_nil, R_cons, AV_nil, AV_cons, OV_nil, OV_cons, A_nil, A_cons, O_nil, O_cons, S_asg, S_asgT, S_par, S_setI, S_aug, S_app, S_revI, S_expr, S_ret, S_retN, S_ite, S_for, S_while, S_brk, S_pass, S_kill, V_some, V_none, V_bind, V_map, V_ite, get0, getS, List.set_cons_zero, List.set_cons_succ, fin_f, fin_t, tst_eq, blR_bl, pk_val, pk_own, pk_ref, fz_val, fz_own, fz_ref, bindR_val, bindR_own, bindR_ref, intD_int, tru_bl, tru_int, tru_vl, tru_tup, tru_fl, tru_non, pks, bT_nm, bT_tp, setAll, bindRs, unref, wipe, unlock, itR, callB, refs, argB, argB1, backB, back1, noRef, augC, add_i, sub_i, badd_i, badd_t, bsub_i, c_eq, c_ne, c_lt, c_le, c_gt, c_ge, c_in_t, c_in_l, c_nin_t, c_nin_l, dok_l, dok_r, dep_int, dep_bl, dep_non, dep_str, eq_ii, eq_bb, b_len_t, b_len_v, b_len_f, b_tup_t, b_tup_v, b_tup_f, b_lst_t, b_lst_v, b_lst_f, b_min2, b_max2, b_abs, b_int_i, b_int_b, b_isB, b_isI, b_isS, b_isT, b_sum_v, b_sum_t, b_any_v, b_all_v, popL, outR_val, outR_own, outR_ref, List.nodup_nil, List.nodup_cons, List.not_mem_nil, not_false_eq_true, and_self, if_true, Bool.false_eq_true, if_false, List.mem_cons, or_false, true_and, and_true, decide_eq_true_eq, beq_iff_eq, Option.map_some, Option.bind_some, List.length_map, List.nil_append, List.cons_append, List.replicate, X_compR, X_compIfR, lim_ok, lim_filter, r1', r2', mul_i, bmul_i, fdiv_i, bfdiv_i, pow_i, mulOk_l, mulOk_r, divOk_of, powOk_of, modS, add_tS, add_lS, mul_lS, mul_tS, slM_t, slM_v, ← List.map_dropLast,  iT, iV, iTi, iVi, it0, it1, it2, it3, it4, iv0, iv1, iv2, iv3, iv_p, it_p, idxQ0, idxQ1, pairQ1, dok_Q, eq_Q, isNon_Q, bindT_Q, isT_Q, len_Q, b_gcd, mt_bits, mtK_bits, castQ0, castQ1, abs_Q, rev_t, rev_v, mn_v, mn_t, mx_v, mx_t, isin_bf, all_t, any_t, ← List.map_reverse, eqD_s, dok_s, iv2_i, iv3_i, max_cons, min_cons, idx_last, idx_lastT, setC_last, popI_eq, popC_ok, beq_self_eq_true, bne_self_eq_false, Int.reduceBEq, Int.reduceBNe, idx_hd, dok_ints, isin_nat, isin_int, ite_ints, appL_eq, appC_ok, setL_eq, setC_ok, setC_i, slT_t, slF_t, slT_v, slF_v, r3', tn1, tn2, ← List.map_take, ← List.map_drop, ints_f, sum_v, sum_t, any_v, all_v, if_and, if_or, Int.cast_ofNat_Int, Int.zero_add, Int.add_zero, Bool.and_eq_true, Bool.or_eq_true, Bool.not_eq_true, Bool.not_eq_eq_eq_not, decide_eq_false_iff_not, decide_true, decide_false, List.length_range, Bool.decide_eq_true, List.isEmpty_cons]; (try (with_reducible refine V_of ?_))))
local macro_rules | `(tactic| wtm_at "wx") => `(tactic| ((try (with_reducible refine V_to ?_)); simp (maxSteps := 2000000) (disch := (first | omega | assumption | (refine tv_nn ?_; omega) | (refine tv_lt ?_; omega) | (refine tv_na ?_ ?_ <;> omega) | (wtm_at "fl") | (wtm_at "sz") | (simp only [List.length_map, List.length_range, List.length_cons, List.length_nil, List.length_append, List.length_set, List.length_reverse, List.length_take, List.length_drop, List.length_dropLast]; omega))) only [*, true_implies, false_implies, implies_true, not_true_eq_false, ne_eq, Int.reduceEq, Int.reduceNeg, Int.reduceToNat, reduceCtorEq, Bool.not_true, Bool.not_false, Classical.not_not, Int.toNat_natCast, MS.rngList_len, Nat.zero_le, List.contains_nil, Bool.and_true, Bool.true_and, Bool.and_false, Bool.false_and, List.map_nil, List.append_nil, Nat.reduceLT, Nat.reduceLeDiff, Int.reduceLT, Int.reduceLE, Nat.reduceMul, Int.reduceMul, Int.reduceAdd, Int.reduceSub, List.length_cons, List.length_nil, Nat.reduceAdd, Nat.reduceSub, Nat.zero_add, List.getElem?_cons_zero, List.getElem?_cons_succ, List.contains_cons, Nat.reduceBEq, Bool.or_false, Bool.or_true, Bool.false_or, outB_0, outB_1, outB_2, outB_3, outB_4, outB_5, outB_6, outB_7, outB_8, eq_ss, eq_nn, X_non, X_bl, T_bl, X_int, X_str, X_var, T_var, X_gl, X_tup, X_lst, X_bin, X_neg, X_cmp, T_cmp, X_chain, T_chain, X_isN', T_isN, isNon_non, isNon_int, isNon_tup, isNon_str, isNon_bl, eqt, eqf, X_isB, T_isB, X_ite, X_idx, T_idx, X_slT, X_slF, X_slB, X_rev, X_call, T_call, X_bi, T_bi, X_pop, X_popAt, X_mt, T_mt, X_rng, T_bin, X_not, T_not, X_and, T_and, X_or, T_or, V_nil, V_cons, R_nil, R_cons, AV_nil, AV_cons, OV_nil, OV_cons, A_nil, A_cons, O_nil, O_cons, S_asg, S_asgT, S_par, S_setI, S_aug, S_app, S_revI, S_expr, S_ret, S_retN, S_ite, S_for, S_while, S_brk, S_pass, S_kill, V_some, V_none, V_bind, V_map, V_ite, get0, getS, List.set_cons_zero, List.set_cons_succ, fin_f, fin_t, tst_eq, blR_bl, pk_val, pk_own, pk_ref, fz_val, fz_own, fz_ref, bindR_val, bindR_own, bindR_ref, intD_int, tru_bl, tru_int, tru_vl, tru_tup, tru_fl, tru_non, pks, bT_nm, bT_tp, setAll, bindRs, unref, wipe, unlock, itR, callB, refs, argB, argB1, backB, back1, noRef, augC, add_i, sub_i, badd_i, badd_t, bsub_i, c_eq, c_ne, c_lt, c_le, c_gt, c_ge, c_in_t, c_in_l, c_nin_t, c_nin_l, dok_l, dok_r, dep_int, dep_bl, dep_non, dep_str, eq_ii, eq_bb, b_len_t, b_len_v, b_len_f, b_tup_t, b_tup_v, b_tup_f, b_lst_t, b_lst_v, b_lst_f, b_min2, b_max2, b_abs, b_int_i, b_int_b, b_isB, b_isI, b_isS, b_isT, b_sum_v, b_sum_t, b_any_v, b_all_v, popL, outR_val, outR_own, outR_ref, List.nodup_nil, List.nodup_cons, List.not_mem_nil, not_false_eq_true, and_self, if_true, Bool.false_eq_true, if_false, List.mem_cons, or_false, true_and, and_true, decide_eq_true_eq, beq_iff_eq, Option.map_some, Option.bind_some, List.length_map, List.nil_append, List.cons_append, List.replicate, X_compR, X_compIfR, lim_ok, lim_filter, r1', r2', mul_i, bmul_i, fdiv_i, bfdiv_i, pow_i, mulOk_l, mulOk_r, divOk_of, powOk_of, modS, add_tS, add_lS, mul_lS, mul_tS, slM_t, slM_v, ← List.map_dropLast,  iT, iV, iTi, iVi, it0, it1, it2, it3, it4, iv0, iv1, iv2, iv3, iv_p, it_p, idxQ0, idxQ1, pairQ1, dok_Q, eq_Q, isNon_Q, bindT_Q, isT_Q, len_Q, b_gcd, mt_bits, mtK_bits, castQ0, castQ1, abs_Q, rev_t, rev_v, mn_v, mn_t, mx_v, mx_t, isin_bf, all_t, any_t, ← List.map_reverse, eqD_s, dok_s, iv2_i, iv3_i, max_cons, min_cons, idx_last, idx_lastT, setC_last, popI_eq, popC_ok, beq_self_eq_true, bne_self_eq_false, Int.reduceBEq, Int.reduceBNe, idx_hd, dok_ints, isin_nat, isin_int, ite_ints, appL_eq, appC_ok, setL_eq, setC_ok, setC_i, slT_t, slF_t, slT_v, slF_v, r3', tn1, tn2, ← List.map_take, ← List.map_drop, ints_f, sum_v, sum_t, any_v, all_v, if_and, if_or, Int.cast_ofNat_Int, Int.zero_add, Int.add_zero, Bool.and_eq_true, Bool.or_eq_true, Bool.not_eq_true, Bool.not_eq_eq_eq_not, decide_eq_false_iff_not, decide_true, decide_false, List.length_range, Bool.decide_eq_true, List.isEmpty_cons]; (try (with_reducible refine V_of ?_))))
local macro_rules | `(tactic| wtm_at "s1") => `(tactic| (first | refine W_st ?_ | refine W_sn ?_) <;> (try wtm_at "wx"))
local macro_rules | `(tactic| wtm_at "go") => `(tactic| ((try simp only [bT_nm, bT_tp, bindT_Q, setAll, Option.bind_some, List.set_cons_zero, List.set_cons_succ]); (first | (wtm_at "s1") | (wtm_at "wx")); repeat (wtm_at "s1")))
local macro_rules | `(tactic| wtm_at "s1") => `(tactic| first | (refine W_sK fun _ _ => ?_; try wtm_at "wx") | (refine W_sn ?_; try wtm_at "wx") | (refine KK.nx (by assumption) ?_; try wtm_at "wx") | (refine KK.rt (by assumption) ?_; try wtm_at "wx") | (refine KK.bk (by assumption) ?_; try wtm_at "wx"))
local macro_rules | `(tactic| wtm_at "go") => `(tactic| ((try simp only [bT_nm, bT_tp, bindT_Q, setAll, Option.bind_some, List.set_cons_zero, List.set_cons_succ]); (first | (wtm_at "s1") | (wtm_at "wx")); repeat (wtm_at "s1")))
local macro_rules | `(tactic| wtm_at "ws") => `(tactic| ((wtm_at "s1"); repeat (wtm_at "s1")))
local macro_rules | `(tactic| wtm_at "tk") => `(tactic| ((try (with_reducible refine V_of ?_)); (first | refine take_q (by rfl) (by omega) (by omega) ?_ | refine cellA_q (by rfl) (by rfl) (by omega) (by omega) ?_); intros; (try wtm_at "wx")))
local macro_rules | `(tactic| wtm_at "g") => `(tactic| ((try simp only [bT_nm, bT_tp, bindT_Q, setAll, Option.bind_some, List.set_cons_zero, List.set_cons_succ]); (first | (wtm_at "tk") | (wtm_at "s1") | (wtm_at "wx")); repeat (first | (wtm_at "tk") | (wtm_at "s1"))))
local macro_rules | `(tactic| wtm_at "gg") => `(tactic| ((try (with_reducible refine V_of ?_)); (try wtm_at "g"); (try (refine ⟨fun _ => ?_, fun _ => ?_⟩ <;> wtm_at "gg"))))
local macro_rules | `(tactic| wtm_at "ifs") => `(tactic| ((repeat' split) <;> omega))

theorem fq (l : List Rat) (h : l.length ≤ 1000000) : Fl 8 (tQ l) := Fl_map (k := 6) (fun _ _ => Fl_Q) h
theorem aft_len {rule : List (Int × Int)} {x : Rat} {ins : List Int} : (aft rule x ins).length = ins.length := by unfold aft; rw [List.length_map, List.length_range]
theorem gos_len {rule : List (Int × Int)} {x : Rat} {ins : List Int} : (gos rule x ins).length = ins.length := by unfold gos; rw [List.length_map, List.length_range]
theorem aft_get {rule : List (Int × Int)} {x : Rat} {ins : List Int} {k : Nat} (h : k < ins.length) : gt (aft rule x ins) k = hs rule x ins (k + 1) := by unfold aft; rw [gt_map (by rw [List.length_range]; exact h), gt_range h]
theorem gos_get {rule : List (Int × Int)} {x : Rat} {ins : List Int} {k : Nat} (h : k < ins.length) : gt (gos rule x ins) k = gs rule x ins k := by unfold gos; rw [gt_map (by rw [List.length_range]; exact h), gt_range h]
theorem HX.cut {rule : List (Int × Int)} {x : Rat} {ins : List Int} (X : HX rule x ins) {c : Nat} (hc : c ≤ ins.length) : HX rule (hs rule x ins c) (ins.drop c) := by
  have dl : (ins.drop c).length = ins.length - c := List.length_drop
  have dg : ∀ k, k < ins.length - c → gt (ins.drop c) k = gt ins (c + k) := fun k hk => gt_eq (by rw [List.getElem?_drop]; exact gt_some (by omega))
  refine ⟨X.r, by have := X.ln; omega, fun k hk => ?_, fun k hk => ?_⟩
  · rw [hs_cut hc k (by omega)]; exact X.sz (by omega)
  · rw [hs_cut hc k (by omega), dg k (by omega), gs_cut (by omega)]; exact X.step (by omega)
theorem there_at {rule : List (Int × Int)} {x : Rat} {ins : List Int} {c : Nat} (hc : c ≤ ins.length) : idxD (.tup (encQ x :: ((aft rule x ins).take c).map encQ)) (-1) = some (encQ (hs rule x ins c)) := by
  have e : encQ x :: ((aft rule x ins).take c).map encQ = (x :: (aft rule x ins).take c).map encQ := rfl
  have l : (x :: (aft rule x ins).take c).length = c + 1 := by rw [List.length_cons, List.length_take, aft_len]; omega
  rw [e, idx_lastT (by omega), l, Nat.add_sub_cancel]
  cases c with
  | zero => rfl
  | succ c =>
    rw [gt_consS]
    have : gt ((aft rule x ins).take (c + 1)) c = gt (aft rule x ins) c := by
      unfold gt; rw [List.getD_eq_getElem?_getD, List.getD_eq_getElem?_getD, List.getElem?_take_of_lt (by omega)]
    rw [this, aft_get (by omega)]
theorem Fl_fil {A : List Rat} {f : Int} : Fl 8 (fil A f) := by unfold fil; wtm_at "fl"
theorem first_cases (p : Nat → Bool) : ∀ m, (∃ i, i < m ∧ (∀ j, j < i → p j = false) ∧ p i = true) ∨ ∀ j, j < m → p j = false
  | 0 => .inr fun j h => by omega
  | m + 1 => by
    rcases first_cases p m with ⟨i, h1, h2, h3⟩ | h
    · exact .inl ⟨i, by omega, h2, h3⟩
    · cases hc : p m with
      | true => exact .inl ⟨m, by omega, h, hc⟩
      | false =>
        refine .inr fun j hj => ?_
        rcases Nat.lt_succ_iff_lt_or_eq.mp hj with hj | rfl
        · exact h j hj
        · exact hc
theorem fil_cases (A : List Rat) (f : Int) : (∃ k, k < A.length ∧ fil A f = nI k ∧ (f : Rat) < gt A k ∧ ((A.take k).filter fun q => decide ((f : Rat) < q)) = []) ∨ (fil A f = .non ∧ (A.filter fun q => decide ((f : Rat) < q)) = []) := by
  have no : ∀ m, m ≤ A.length → (∀ j, j < m → ful A f j = false) → ((A.take m).filter fun q => decide ((f : Rat) < q)) = [] := fun m hm h => List.filter_eq_nil_iff.mpr fun q hq => by
    obtain ⟨j, hj⟩ := List.mem_iff_getElem?.mp hq
    have hj' : j < m := by
      have := (List.getElem?_eq_some_iff.mp hj).1
      rw [List.length_take] at this; omega
    rw [List.getElem?_take_of_lt hj'] at hj
    have := h j hj'
    unfold ful at this
    rw [gt_eq hj] at this
    simpa using this
  rcases first_cases (ful A f) A.length with ⟨k, h1, h2, h3⟩ | h
  · refine .inl ⟨k, h1, by unfold fil; rw [hd_get, first_some h2 h1 h3]; rfl, ?_, no k (by omega) h2⟩
    unfold ful at h3
    simpa using h3
  · refine .inr ⟨by unfold fil; rw [hd_get, first_none h]; rfl, ?_⟩
    have := no A.length (Nat.le_refl _) h
    rw [List.take_length] at this
    exact this
theorem lake_W {n : Nat} (hn : 30 ≤ n) (ns l : List Int) (hns : ns.length ≤ 63) : W (callF G P n 19 [.cell (l.map D.int), .val (.fl (ns.map D.int))]) fun p => ∃ (l' : List Int), p = (.val (.bl true), [.cell (l'.map D.int), .val (.fl (ns.map D.int))]) := by
  obtain ⟨n, rfl⟩ := fuel hn
  rw [callF_succ (fn := f_l_law_lake_right) rfl]; refine run_ok rfl rfl ?_
  have sm := fun n (hn : 8 ≤ n) d (hd : Fl 8 d) => @same_n G P 15 (.inl rfl) n d hn hd
  have cf := fun n (hn : 1 ≤ n) (a d : Int) (hd : ¬ d = 0) (h2 : d.natAbs ≤ 1000) => @cfrac n hn a d hd (sm8 (by omega))
  wtm_at "g"
  refine W_mono (rule_W (by omega) ns _ hns) ?_
  rintro p ⟨rule, b, l', rfl, b0, b1, r0, r1, Rr⟩
  have R := Rr.rn b0 r0 (by omega)
  wtm_at "g"
  rename_i v lv v0 v1 w lw w0 w1 _ _ q lq q0 q1
  have mv : mulOk b v = true := mulOk_r (by omega)
  have bv := bm (show 0 ≤ b by omega) b1 v0 (show v ≤ 119 by omega)
  have hb6 : Bq 6 (6 * (10 ^ 12 * 119)) (Rat.divInt (b * v) (1 + w)) := by
    have h1 : Bq (1 + w).toNat (10 ^ 12 * 119) (Rat.divInt (b * v) (1 + w)) := ⟨by omega, b * v, by rw [Int.toNat_of_nonneg (by omega)], by omega⟩
    rcases (by omega : w = 0 ∨ w = 1 ∨ w = 2) with rfl | rfl | rfl
    · exact (h1.up 6 (by decide)).mono (by decide)
    · exact (h1.up 3 (by decide)).mono (by decide)
    · exact (h1.up 2 (by decide)).mono (by decide)
  have hx : HB 6 (2 ^ 60) (Rat.divInt (b * v) (1 + w)) := ⟨hb6.mono (by decide), by decide⟩
  have bb2 : Bq 6 (3 * 10 ^ 12) (Rat.divInt b 2) := by
    have h1 : Bq 2 (10 ^ 12) (Rat.divInt b 2) := ⟨by decide, b, rfl, by omega⟩
    exact (h1.up 3 (by decide)).mono (by decide)
  have hy : HB 6 (2 ^ 60) (Rat.divInt (b * v) (1 + w) + Rat.divInt b 2) := ⟨(hb6.add bb2).mono (by decide), by decide⟩
  have sx : Sz 70 (Rat.divInt (b * v) (1 + w)) := hx.b.sz (by decide) (by decide)
  have sb2 : Sz 70 (Rat.divInt b 2) := bb2.sz (by decide) (by decide)
  have x0 : 0 ≤ Rat.divInt (b * v) (1 + w) := by
    have := dA_lt (a := b * v) (b := 0) (show 0 < 1 + w by omega)
    rw [← dA_zero (show 0 < 1 + w by omega)] at this
    rw [← Rat.not_lt]
    intro h
    have := this.mp h
    omega
  have y0 : 0 ≤ Rat.divInt b 2 := by
    have := dA_lt (a := b) (b := 0) (show (0 : Int) < 2 by decide)
    rw [← dA_zero (show (0 : Int) < 2 by decide)] at this
    rw [← Rat.not_lt]
    intro h
    have := this.mp h
    omega
  clear hb6 bb2 v0 v1 w0 w1 bv mv
  generalize Rat.divInt (b * v) (1 + w) = x at *
  generalize hye : Rat.divInt b 2 = y at *
  refine W_mono (lins_W (by omega) _ _ b (by omega) (by omega) (by omega)) ?_
  rintro p ⟨ins, l', rfl, il, ib⟩
  have i6 : ins.length ≤ 6 := by omega
  have ibn : ∀ a ∈ ins, 0 ≤ a := fun a ha => (ib a ha).1
  have ibb : ∀ a ∈ ins, a.natAbs ≤ 2 ^ 50 := fun a ha => by have := ib a ha; omega
  have X := (HX0.mk R.r i6 ibb hx).to
  have Y := (HX0.mk R.r i6 ibb hy).to
  have Z := (HX0.mk (ins := [0, 0, 0]) R.r (by decide) (fun a ha => by simp at ha; subst ha; decide) hx).to
  have R1 : Rl [(0, 0)] := ⟨by decide, by decide, fun k hk => by
    have : k = 0 := by simp at hk; exact hk
    subst this; exact ⟨by decide, by decide⟩, fun k hk => by simp at hk⟩
  have U := (HX0.mk (ins := [b, 0]) R1 (show 2 ≤ 6 by decide) (fun a ha => by
    simp only [List.mem_cons, List.not_mem_nil, or_false] at ha
    rcases ha with rfl | rfl <;> omega) hx).to
  have c7 := fun n (hn : 8 ≤ n) => @aft_ok n hn _ _ _ X
  have c8 := fun n (hn : 8 ≤ n) => @gos_ok n hn _ _ _ X
  have al := @aft_len rule x ins
  have gl := @gos_len rule x ins
  have al' : ((aft rule x ins).length : Int) = ins.length := by omega
  have gl' : ((gos rule x ins).length : Int) = ins.length := by omega
  have al6 : (aft rule x ins).length ≤ 6 := by omega
  have gl6 : (gos rule x ins).length ≤ 6 := by omega
  have al2 : (aft rule x ins).length ≤ ins.length := by omega
  have al1 : ins.length ≤ (aft rule x ins).length := by omega
  have gl1 : ins.length ≤ (gos rule x ins).length := by omega
  clear al gl hx hy il ib q0 q1
  wtm_at "g"
  clear al' gl'
  have cp := @cplus
  have cl := @cless
  refine W_fER (fun i e => e.set 8 (.val (encQ (hs rule x ins i)))) (by rfl) ?_ ?_
  · intro i hi
    obtain ⟨s1, s2, s3, s4, s5⟩ := X.step hi
    have s6 := X.sz (k := i + 1) (by omega)
    have g1 := @aft_get rule x ins i hi
    have g2 := @gos_get rule x ins i hi
    have hA : i < (aft rule x ins).length := by omega
    have hG : i < (gos rule x ins).length := by omega
    have c5 := fun n (hn : 6 ≤ n) => @gives_ok n hn rule R.r _ (s3.mono (by decide : 380 ≤ 400))
    have e1 := @hs_sum rule x ins i
    have n1 : ¬ hs rule x ins (i + 1) < 0 := Rat.not_lt.mpr (hs_nn R x0 ibn (i + 1) (by omega))
    have n2 : ¬ gv rule (hs rule x ins i + ((gt ins i : Int) : Rat)) < gs rule x ins i := Rat.not_lt.mpr (goes_le).2
    have n3 : ¬ gs rule x ins i < 0 := Rat.not_lt.mpr (gs_nn R x0 ibn hi)
    have n4 := @gs_ne rule x ins i
    have fA : ∀ q : Rat, Fl 8 (encQ q) := fun q => Fl_Q
    have s0 : Sz 3 0 := ⟨by decide, by decide⟩
    clear X Y Z U c7 c8
    generalize aft rule x ins = A at *
    generalize gos rule x ins = Gs at *
    generalize hs rule x ins (i + 1) = z1 at *
    generalize hs rule x ins i = z at *
    generalize gs rule x ins i = g at *
    generalize gv rule (z + ((gt ins i : Int) : Rat)) = gg at *
    unfold b_l_law_lake_right_1
    by_cases h : g = gg
    · subst h
      clear n4
      wtm_at "g"
    · have n5 := n4 h
      subst n5
      clear n4
      wtm_at "g"
  · refine KK.nx (by assumption) ?_
    wtm_at "g"
    rename_i c lc c0 c1 _ _ _ _
    obtain ⟨c, rfl⟩ : ∃ k : Nat, c = k := ⟨c.toNat, by omega⟩
    have hc : c ≤ ins.length := by omega
    have e12 := @there_at rule x ins c hc
    have dl : (ins.drop c).length ≤ 6 := by rw [List.length_drop]; omega
    have Xc := X.cut hc
    have d7 := fun n (hn : 8 ≤ n) => @aft_ok n hn _ _ _ Xc
    have d8 := fun n (hn : 8 ≤ n) => @gos_ok n hn _ _ _ Xc
    rw [aft_cut hc] at d7
    rw [gos_cut hc] at d8
    have f1 := fq ((aft rule x ins).drop c) (by rw [List.length_drop]; omega)
    have f2 := fq ((gos rule x ins).drop c) (by rw [List.length_drop]; omega)
    have tc : ((c : Nat) : Int).toNat = c := Int.toNat_natCast c
    have c0' : 0 ≤ (c : Int) := by omega
    unfold tQ at d7 d8 f1 f2
    unfold tI at d7 d8
    clear c7 c8
    rw [tc]
    wtm_at "g"
    have z7 : ∀ n, 8 ≤ n → callF G P n 7 [.val (tR rule), .val (encQ x), .val (.tup [.int 0, .int 0, .int 0])] = some (.val (.tup [encQ (hs rule x [0, 0, 0] 1), encQ (hs rule x [0, 0, 0] 2), encQ (hs rule x [0, 0, 0] 3)]), [.val (tR rule), .val (encQ x), .val (.tup [.int 0, .int 0, .int 0])]) := fun n hn => @aft_ok n hn _ _ _ Z
    have u7 : ∀ n, 8 ≤ n → callF G P n 7 [.val (.tup [.tup [.int 0, .int 0]]), .val (encQ x), .val (.tup [.int b, .int 0])] = some (.val (.tup [encQ (x + (b : Rat)), encQ (x + (b : Rat))]), [.val (.tup [.tup [.int 0, .int 0]]), .val (encQ x), .val (.tup [.int b, .int 0])]) := fun n hn => by
      have := @aft_ok n hn _ _ _ U
      rw [one_hs x0 (by omega)] at this
      exact this
    have n1 : ¬ x < hs rule x [0, 0, 0] 1 := Rat.not_lt.mpr (calm_le R x0 (show 0 < 3 by decide))
    have n2 : ¬ hs rule x [0, 0, 0] 1 < hs rule x [0, 0, 0] 2 := Rat.not_lt.mpr (calm_le R x0 (show 1 < 3 by decide))
    have n3 : ¬ hs rule x [0, 0, 0] 2 < hs rule x [0, 0, 0] 3 := Rat.not_lt.mpr (calm_le R x0 (show 2 < 3 by decide))
    have s1 : Sz 300 (hs rule x [0, 0, 0] 1) := Z.sz (show 1 ≤ 3 by decide)
    have s2 : Sz 300 (hs rule x [0, 0, 0] 2) := Z.sz (show 2 ≤ 3 by decide)
    have s3 : Sz 300 (hs rule x [0, 0, 0] 3) := Z.sz (show 3 ≤ 3 by decide)
    have sbq : Sz 70 (b : Rat) := Sz_int (by decide) (by omega)
    have e2 : (List.range 2).map (fun _ => encQ (x + (b : Rat))) = [encQ (x + (b : Rat)), encQ (x + (b : Rat))] := rfl
    have f3 : Fl 8 (.tup [encQ (x + (b : Rat)), encQ (x + (b : Rat))]) := fq [x + (b : Rat), x + (b : Rat)] (show 2 ≤ 1000000 by decide)
    clear Z U d7 d8 Xc e12 f1 f2
    generalize hs rule x [0, 0, 0] 1 = a1 at *
    generalize hs rule x [0, 0, 0] 2 = a2 at *
    generalize hs rule x [0, 0, 0] 3 = a3 at *
    wtm_at "g"
    refine W_cI (fun k => decide ((gt rule (k + 1)).1 - (gt rule k).1 < (gt rule (k + 1)).2 - (gt rule k).2)) (fun k => D.int (1 + (k : Int))) ?_ ?_
    · intro k hk
      have hk' := List.mem_range.mp hk
      have h1 : k + 1 < rule.length := by omega
      have h2 : k < rule.length := by omega
      have e3 : ((1 : Int) + (k : Int)).toNat = k + 1 := by omega
      have e4 : ((1 : Int) + (k : Int) - 1).toNat = k := by omega
      clear z7 u7 sm X Y
      wtm_at "g"
      intro _
      exact ⟨_, rfl, rfl, rfl⟩
    · have hg : ((List.range (rule.length - 1)).filter fun k => decide ((gt rule (k + 1)).1 - (gt rule k).1 < (gt rule (k + 1)).2 - (gt rule k).2)).length = 0 → gentle rule := fun h k hk => by
        have := List.filter_eq_nil_iff.mp (List.length_eq_zero_iff.mp h) k (List.mem_range.mpr (by omega))
        simpa using this
      have hgl := List.length_filter_le (fun k => decide ((gt rule (k + 1)).1 - (gt rule k).1 < (gt rule (k + 1)).2 - (gt rule k).2)) (List.range (rule.length - 1))
      rw [List.length_range] at hgl
      have y7 := fun n (hn : 8 ≤ n) => @aft_ok n hn _ _ _ Y
      have mono := fun g k hk => @hs_mono rule x (x + y) ins R g x0 (by grind) ibn k hk
      have as : ∀ k, k < ins.length → Sz 300 (gt (aft rule x ins) k) := fun k hk => by rw [aft_get hk]; exact X.sz (by omega)
      have ys : ∀ k, k < ins.length → Sz 300 (gt (aft rule (x + y) ins) k) := fun k hk => by rw [aft_get hk]; exact Y.sz (by omega)
      have mo2 : gentle rule → ((List.range ins.length).filter fun k => decide (gt (aft rule (x + y) ins) k < gt (aft rule x ins) k)) = [] := fun g => List.filter_eq_nil_iff.mpr fun k hk => by
        have hk' := List.mem_range.mp hk
        rw [aft_get hk', aft_get hk']
        have := Rat.not_lt.mpr (mono g (k + 1) (by omega))
        simpa using this
      have yl : ins.length ≤ (aft rule (x + y) ins).length := by rw [aft_len]; exact Nat.le_refl _
      have c9 := fun n (hn : 9 ≤ n) f hf => @fills_ok n hn _ _ _ X f hf
      have fcs := fil_cases (aft rule x ins)
      clear z7 u7 X Y mono n1 n2 n3 f3
      generalize (List.range (rule.length - 1)).filter (fun k => decide ((gt rule (k + 1)).1 - (gt rule k).1 < (gt rule (k + 1)).2 - (gt rule k).2)) = Fg at *
      generalize aft rule (x + y) ins = A2 at *
      generalize aft rule x ins = A at *
      wtm_at "g"
      by_cases hF : Fg.length = 0
      case' pos =>
        have mo3 := mo2 (hg hF)
        have hF' : (Fg.length : Int) = 0 := by omega
        clear hF mo2 hg
        wtm_at "g"
        refine W_cI (fun k => decide (gt A2 k < gt A k)) nI ?_ ?_
        · intro k hk
          have hk' := List.mem_range.mp hk
          have t1 := as k hk'
          have t2 := ys k hk'
          have t3 : k < A.length := by omega
          have t4 : k < A2.length := by omega
          clear sm as ys mo3
          wtm_at "g"
          intro _
          exact ⟨_, rfl, rfl, rfl⟩
        rw [mo3]
        wtm_at "g"
      case' neg =>
        have hF' : ¬ (Fg.length : Int) = 0 := by omega
        clear mo2 hg
        wtm_at "g"
      all_goals
        rename_i z lz z0 z1 _ _
        have bz := bm (show 0 ≤ b by omega) b1 z0 (show z ≤ 59 by omega)
        have c9' := fun n (hn : 9 ≤ n) => c9 n hn (b * z) (by omega)
        have sz : Sz 70 ((b * z : Int) : Rat) := Sz_int (by decide) (by omega)
        have fc := fcs (b * z)
        clear c9 fcs z0 z1 bz
        generalize b * z = f at *
        have ab : ∀ q ∈ A, Sz 300 q := fun q hq => by
          obtain ⟨j, hj⟩ := List.mem_iff_getElem?.mp hq
          have := as j (by have := (List.getElem?_eq_some_iff.mp hj).1; omega)
          rw [gt_eq hj] at this
          exact this
        rcases fc with ⟨k, k1, k2, k3, k4⟩ | ⟨k2, k4⟩
        · rw [k2] at c9'
          have s9 := ab _ (gt_mem k1)
          clear k2
          wtm_at "g"
          refine W_cI (fun q => decide ((f : Rat) < q)) encQ ?_ ?_
          · intro q hq
            have s8 := ab q (List.mem_of_mem_take hq)
            clear c9' sm ab as ys k4
            wtm_at "g"
            intro _
            exact ⟨_, rfl, rfl, rfl⟩
          · rw [k4]
            wtm_at "g"
            exact ⟨_, rfl⟩
        · rw [k2] at c9'
          clear k2
          wtm_at "g"
          refine W_cI (fun q => decide ((f : Rat) < q)) encQ ?_ ?_
          · intro q hq
            have s8 := ab q hq
            clear c9' sm ab as ys k4
            wtm_at "g"
            intro _
            exact ⟨_, rfl, rfl, rfl⟩
          · rw [k4]
            wtm_at "g"
            exact ⟨_, rfl⟩
end K30

set_option exponentiation.threshold 100000
namespace K30
open Mini PL
local macro_rules | `(tactic| wtm_at "fl") => `(tactic| first | exact Fl_int | exact Fl_bl | exact Fl_non | exact Fl_str | assumption | (refine Fl_ite ?_ ?_ <;> wtm_at "fl") | (refine Fl_hd (fun _ _ => ?_) ?_ <;> wtm_at "fl") | (refine Fl_map (fun _ _ => ?_) ?_; (wtm_at "fl"); (first | omega | (simp only [List.length_map, List.length_range, List.length_cons, List.length_nil, List.length_append, List.length_set, List.length_reverse, List.length_take, List.length_drop, List.length_dropLast]; omega) | (simp only [*]; omega))) | (refine Fl_tupL ?_ ?_; (first | omega | (simp only [List.length_map, List.length_range, List.length_cons, List.length_nil, List.length_append, List.length_set, List.length_reverse, List.length_take, List.length_drop, List.length_dropLast]; omega) | (simp only [*]; omega)); wtm_at "fl") | exact FlL_nil | (refine FlL_cons ?_ ?_ <;> wtm_at "fl") | (refine FlL_app ?_ ?_ <;> wtm_at "fl") | (refine FlL_map (fun _ _ => ?_); wtm_at "fl"))
local macro_rules | `(tactic| wtm_at "w") => `(tactic| ((try (with_reducible refine V_to ?_)); simp (maxSteps := 2000000) (disch := (first | omega | assumption | (refine tv_nn ?_; omega) | (refine tv_lt ?_; omega) | (refine tv_na ?_ ?_ <;> omega) | (wtm_at "fl") | (simp only [List.length_map, List.length_range, List.length_cons, List.length_nil, List.length_append, List.length_set, List.length_reverse, List.length_take, List.length_drop, List.length_dropLast]; omega))) only [true_implies, false_implies, implies_true, not_true_eq_false, ne_eq, Int.reduceEq, Int.reduceNeg, Int.reduceToNat, reduceCtorEq, Bool.not_true, Bool.not_false, Classical.not_not, Int.toNat_natCast, MS.rngList_len, Nat.zero_le, List.contains_nil, Bool.and_true, Bool.true_and, Bool.and_false, Bool.false_and, List.map_nil, List.append_nil, Nat.reduceLT, Nat.reduceLeDiff, Int.reduceLT, Int.reduceLE, Nat.reduceMul, Int.reduceMul, Int.reduceAdd, Int.reduceSub, List.length_cons, List.length_nil, Nat.reduceAdd, Nat.reduceSub, Nat.zero_add, List.getElem?_cons_zero, List.getElem?_cons_succ, List.contains_cons, Nat.reduceBEq, Bool.or_false, Bool.or_true, Bool.false_or, outB_0, outB_1, outB_2, outB_3, outB_4, outB_5, outB_6, outB_7, outB_8, eq_ss, eq_nn, X_non, X_bl, T_bl, X_int, X_str, X_var, T_var, X_gl, X_tup, X_lst, X_bin, X_neg, X_cmp, T_cmp, X_chain, T_chain, X_isN', T_isN, isNon_non, isNon_int, isNon_tup, isNon_str, isNon_bl, eqt, eqf, X_isB, T_isB, X_ite, X_idx, T_idx, X_slT, X_slF, X_slB, X_rev, X_call, T_call, X_bi, T_bi, X_pop, X_popAt, X_mt, T_mt, X_rng, T_bin, X_not, T_not, X_and, T_and, X_or, T_or, V_nil, V_cons, R_nil, R_cons, AV_nil, AV_cons, OV_nil, OV_cons, A_nil, A_cons, O_nil, O_cons, S_asg, S_asgT, S_par, S_setI, S_aug, S_app, S_revI, S_expr, S_ret, S_retN, S_ite, S_for, S_while, S_brk, S_pass, S_kill, V_some, V_none, V_bind, V_map, V_ite, get0, getS, List.set_cons_zero, List.set_cons_succ, fin_f, fin_t, tst_eq, blR_bl, pk_val, pk_own, pk_ref, fz_val, fz_own, fz_ref, bindR_val, bindR_own, bindR_ref, intD_int, tru_bl, tru_int, tru_vl, tru_tup, tru_fl, tru_non, pks, bindT, setAll, bindRs, unref, wipe, unlock, itR, callB, refs, argB, argB1, backB, back1, noRef, augC, add_i, sub_i, badd_i, badd_t, bsub_i, c_eq, c_ne, c_lt, c_le, c_gt, c_ge, c_in_t, c_in_l, c_nin_t, c_nin_l, dok_l, dok_r, dep_int, dep_bl, dep_non, dep_str, eq_ii, eq_bb, b_len_t, b_len_v, b_len_f, b_tup_t, b_tup_v, b_tup_f, b_lst_t, b_lst_v, b_lst_f, b_min2, b_max2, b_abs, b_int_i, b_int_b, b_isB, b_isI, b_isS, b_isT, b_sum_v, b_sum_t, b_any_v, b_all_v, popL, outR_val, outR_own, outR_ref, List.nodup_nil, List.nodup_cons, List.not_mem_nil, not_false_eq_true, and_self, if_true, Bool.false_eq_true, if_false, List.mem_cons, or_false, true_and, and_true, decide_eq_true_eq, beq_iff_eq, Option.map_some, Option.bind_some, List.length_map, List.nil_append, List.cons_append, List.replicate, X_compR, X_compIfR, lim_ok, lim_filter, r1', r2', mul_i, bmul_i, fdiv_i, bfdiv_i, pow_i, mulOk_l, mulOk_r, divOk_of, powOk_of, modS, add_tS, add_lS, mul_lS, iT, iV, iTi, iVi, it0, it1, it2, it3, it4, iv0, iv1, iv2, iv3, iv_p, it_p, rev_t, rev_v, mn_v, mn_t, mx_v, mx_t, isin_bf, all_t, any_t, ← List.map_reverse, eqD_s, dok_s, iv2_i, iv3_i, max_cons, min_cons, idx_last, idx_lastT, setC_last, popI_eq, popC_ok, beq_self_eq_true, bne_self_eq_false, Int.reduceBEq, Int.reduceBNe, idx_hd, dok_ints, isin_nat, isin_int, ite_ints, appL_eq, appC_ok, setL_eq, setC_ok, setC_i, slT_t, slF_t, slT_v, slF_v, r3', tn1, tn2, ← List.map_take, ← List.map_drop, ints_f, sum_v, sum_t, any_v, all_v, if_and, if_or, Int.cast_ofNat_Int, Int.zero_add, Int.add_zero, Bool.and_eq_true, Bool.or_eq_true, Bool.not_eq_true, Bool.not_eq_eq_eq_not, decide_eq_false_iff_not, decide_true, decide_false, List.length_range, Bool.decide_eq_true, List.isEmpty_cons]; (try (with_reducible refine V_of ?_))))
local macro_rules | `(tactic| wtm_at "wx") => `(tactic| ((try (with_reducible refine V_to ?_)); simp (maxSteps := 2000000) (disch := (first | omega | assumption | (refine tv_nn ?_; omega) | (refine tv_lt ?_; omega) | (refine tv_na ?_ ?_ <;> omega) | (wtm_at "fl") | (simp only [List.length_map, List.length_range, List.length_cons, List.length_nil, List.length_append, List.length_set, List.length_reverse, List.length_take, List.length_drop, List.length_dropLast]; omega))) only [*, true_implies, false_implies, implies_true, not_true_eq_false, ne_eq, Int.reduceEq, Int.reduceNeg, Int.reduceToNat, reduceCtorEq, Bool.not_true, Bool.not_false, Classical.not_not, Int.toNat_natCast, MS.rngList_len, Nat.zero_le, List.contains_nil, Bool.and_true, Bool.true_and, Bool.and_false, Bool.false_and, List.map_nil, List.append_nil, Nat.reduceLT, Nat.reduceLeDiff, Int.reduceLT, Int.reduceLE, Nat.reduceMul, Int.reduceMul, Int.reduceAdd, Int.reduceSub, List.length_cons, List.length_nil, Nat.reduceAdd, Nat.reduceSub, Nat.zero_add, List.getElem?_cons_zero, List.getElem?_cons_succ, List.contains_cons, Nat.reduceBEq, Bool.or_false, Bool.or_true, Bool.false_or, outB_0, outB_1, outB_2, outB_3, outB_4, outB_5, outB_6, outB_7, outB_8, eq_ss, eq_nn, X_non, X_bl, T_bl, X_int, X_str, X_var, T_var, X_gl, X_tup, X_lst, X_bin, X_neg, X_cmp, T_cmp, X_chain, T_chain, X_isN', T_isN, isNon_non, isNon_int, isNon_tup, isNon_str, isNon_bl, eqt, eqf, X_isB, T_isB, X_ite, X_idx, T_idx, X_slT, X_slF, X_slB, X_rev, X_call, T_call, X_bi, T_bi, X_pop, X_popAt, X_mt, T_mt, X_rng, T_bin, X_not, T_not, X_and, T_and, X_or, T_or, V_nil, V_cons, R_nil, R_cons, AV_nil, AV_cons, OV_nil, OV_cons, A_nil, A_cons, O_nil, O_cons, S_asg, S_asgT, S_par, S_setI, S_aug, S_app, S_revI, S_expr, S_ret, S_retN, S_ite, S_for, S_while, S_brk, S_pass, S_kill, V_some, V_none, V_bind, V_map, V_ite, get0, getS, List.set_cons_zero, List.set_cons_succ, fin_f, fin_t, tst_eq, blR_bl, pk_val, pk_own, pk_ref, fz_val, fz_own, fz_ref, bindR_val, bindR_own, bindR_ref, intD_int, tru_bl, tru_int, tru_vl, tru_tup, tru_fl, tru_non, pks, bindT, setAll, bindRs, unref, wipe, unlock, itR, callB, refs, argB, argB1, backB, back1, noRef, augC, add_i, sub_i, badd_i, badd_t, bsub_i, c_eq, c_ne, c_lt, c_le, c_gt, c_ge, c_in_t, c_in_l, c_nin_t, c_nin_l, dok_l, dok_r, dep_int, dep_bl, dep_non, dep_str, eq_ii, eq_bb, b_len_t, b_len_v, b_len_f, b_tup_t, b_tup_v, b_tup_f, b_lst_t, b_lst_v, b_lst_f, b_min2, b_max2, b_abs, b_int_i, b_int_b, b_isB, b_isI, b_isS, b_isT, b_sum_v, b_sum_t, b_any_v, b_all_v, popL, outR_val, outR_own, outR_ref, List.nodup_nil, List.nodup_cons, List.not_mem_nil, not_false_eq_true, and_self, if_true, Bool.false_eq_true, if_false, List.mem_cons, or_false, true_and, and_true, decide_eq_true_eq, beq_iff_eq, Option.map_some, Option.bind_some, List.length_map, List.nil_append, List.cons_append, List.replicate, X_compR, X_compIfR, lim_ok, lim_filter, r1', r2', mul_i, bmul_i, fdiv_i, bfdiv_i, pow_i, mulOk_l, mulOk_r, divOk_of, powOk_of, modS, add_tS, add_lS, mul_lS, iT, iV, iTi, iVi, it0, it1, it2, it3, it4, iv0, iv1, iv2, iv3, iv_p, it_p, rev_t, rev_v, mn_v, mn_t, mx_v, mx_t, isin_bf, all_t, any_t, ← List.map_reverse, eqD_s, dok_s, iv2_i, iv3_i, max_cons, min_cons, idx_last, idx_lastT, setC_last, popI_eq, popC_ok, beq_self_eq_true, bne_self_eq_false, Int.reduceBEq, Int.reduceBNe, idx_hd, dok_ints, isin_nat, isin_int, ite_ints, appL_eq, appC_ok, setL_eq, setC_ok, setC_i, slT_t, slF_t, slT_v, slF_v, r3', tn1, tn2, ← List.map_take, ← List.map_drop, ints_f, sum_v, sum_t, any_v, all_v, if_and, if_or, Int.cast_ofNat_Int, Int.zero_add, Int.add_zero, Bool.and_eq_true, Bool.or_eq_true, Bool.not_eq_true, Bool.not_eq_eq_eq_not, decide_eq_false_iff_not, decide_true, decide_false, List.length_range, Bool.decide_eq_true, List.isEmpty_cons]; (try (with_reducible refine V_of ?_))))
local macro_rules | `(tactic| wtm_at "s1") => `(tactic| (first | refine W_st ?_ | refine W_sn ?_) <;> (try wtm_at "wx"))
local macro_rules | `(tactic| wtm_at "go") => `(tactic| ((try simp only [bindT, setAll, Option.bind_some, List.set_cons_zero, List.set_cons_succ]); (first | (wtm_at "s1") | (wtm_at "wx")); repeat (wtm_at "s1")))
local macro_rules | `(tactic| wtm_at "s1") => `(tactic| first | (refine W_sK fun _ _ => ?_; try wtm_at "wx") | (refine W_sn ?_; try wtm_at "wx") | (refine KK.nx (by assumption) ?_; try wtm_at "wx") | (refine KK.rt (by assumption) ?_; try wtm_at "wx") | (refine KK.bk (by assumption) ?_; try wtm_at "wx"))
local macro_rules | `(tactic| wtm_at "go") => `(tactic| ((try simp only [bindT, setAll, Option.bind_some, List.set_cons_zero, List.set_cons_succ]); (first | (wtm_at "s1") | (wtm_at "wx")); repeat (wtm_at "s1")))
local macro_rules | `(tactic| wtm_at "ws") => `(tactic| ((wtm_at "s1"); repeat (wtm_at "s1")))
local macro_rules | `(tactic| wtm_at "tk") => `(tactic| ((try (with_reducible refine V_of ?_)); (first | refine take_q (by rfl) (by omega) (by omega) ?_); intro _ _ _ _; (try wtm_at "wx")))
local macro_rules | `(tactic| wtm_at "g") => `(tactic| ((try simp only [bindT, setAll, Option.bind_some, List.set_cons_zero, List.set_cons_succ]); (first | (wtm_at "tk") | (wtm_at "s1") | (wtm_at "wx")); repeat (first | (wtm_at "tk") | (wtm_at "s1"))))
local macro_rules | `(tactic| wtm_at "gg") => `(tactic| ((try (with_reducible refine V_of ?_)); (try wtm_at "g"); (try (refine ⟨fun _ => ?_, fun _ => ?_⟩ <;> wtm_at "gg"))))
local macro_rules | `(tactic| wtm_at "ifs") => `(tactic| ((repeat' split) <;> omega))

/-- what is held, played day by day -/
theorem played_ok {n : Nat} (hn : 1 ≤ n) {ins : List Int} (hi : ins.length ≤ 20) (out s : Int) : callF G P n 20 [.val (tI ins), .val (.int out), .val (.int s)] = some (.val (.int (s - lst ins out)), [.val (tI ins), .val (.int out), .val (.int s)]) := by
  obtain ⟨n, rfl⟩ := fuel hn
  rw [callF_succ (fn := f_l_law_played) rfl]; refine W.get (run_ok rfl rfl ?_)
  wtm_at "g"
  refine W_fE (fun i e => (e.set 3 (.val (.int (s - lk ins out i)))).set 4 (.val (.int (s - bs ins out i)))) (by rw [show s - lk ins out 0 = s by show s - 0 = s; omega, show s - bs ins out 0 = s by show s - 0 = s; omega]; rfl) ?_ ?_
  · intro i own hi ho
    have hg := gt_eq ho
    have e1 : s - lk ins out (i + 1) = min s (s - lk ins out i + own - out) := by
      show s - max 0 (lk ins out i + out - gt ins i) = _
      rw [hg]; omega
    have e2 : s - bs ins out (i + 1) = min (s - bs ins out i) (s - lk ins out (i + 1)) := by
      show s - max (bs ins out i) (lk ins out (i + 1)) = _
      omega
    rw [e2, e1]
    clear e1 e2 ho hg
    generalize s - bs ins out i = b
    generalize s - lk ins out i = k
    unfold b_l_law_played_1
    wtm_at "g"
  · have e : bs ins out ins.length = lst ins out := rfl
    rw [e]
    wtm_at "g"
theorem min_k {ins : List Int} (h : 0 < ins.length) : ∃ k, k < ins.length ∧ gt ins k = mnL ins := by
  obtain ⟨k, hk⟩ := List.mem_iff_getElem?.mp (mnL_mem h)
  exact ⟨k, (List.getElem?_eq_some_iff.mp hk).1, gt_eq hk⟩
theorem lst_min {ins : List Int} : lst ins (mnL ins) = 0 := lst_0 fun k hk => mnL_le (gt_mem hk)
theorem lst_min2 {ins : List Int} : lst (ins ++ ins) (mnL ins) = 0 := lst_0 fun k hk => by
  have : gt (ins ++ ins) k ∈ ins := by
    rcases List.mem_append.mp (gt_mem hk) with h | h <;> exact h
  exact mnL_le this
theorem lst_min1 {ins : List Int} (h : 0 < ins.length) : 0 < lst ins (mnL ins + 1) := by
  obtain ⟨k, h1, h2⟩ := min_k h
  exact lst_pos h1 (by omega)
/-- all that the law asks of the evenest release -/
theorem even_laws {ins : List Int} (h0 : 0 < ins.length) {s b t : Int} (hs : 0 ≤ s) (hb : 0 ≤ b) (ht : 0 < t) : ∃ e g e2 : Int, ev ins s = .int e ∧ ev (ins.map fun x => t * x) (t * s) = .int g ∧ ev ins (s + b) = .int e2 ∧ ev ins 0 = .int (mnL ins) ∧ lst ins e ≤ s ∧ s < lst ins (e + 1) ∧ g.fdiv t = e ∧ e ≤ e2 ∧ mnL ins ≤ e := by
  obtain ⟨e, e1, _, _, e4, e5⟩ := ev_law h0 hs
  obtain ⟨g, g1, _, _, g4, g5⟩ := ev_law (ins := ins.map fun x => t * x) (s := t * s) (by rw [List.length_map]; exact h0) (Int.mul_nonneg (by omega) hs)
  obtain ⟨e2, f1, _, _, f4, f5⟩ := ev_law h0 (show 0 ≤ s + b by omega)
  obtain ⟨m, m1, _, _, m4, m5⟩ := ev_law h0 (Int.le_refl 0)
  have a1 : m ≤ mnL ins := ev_eq m4 (lst_min1 h0)
  have a2 : mnL ins ≤ m := ev_eq (by rw [lst_min]; exact Int.le_refl 0) m5
  have am : m = mnL ins := by omega
  have b1 : e ≤ e2 := ev_eq (show lst ins e ≤ s + b by omega) f5
  have b2 : mnL ins ≤ e := ev_eq (by rw [lst_min]; exact hs) e5
  have c1 : t * e ≤ g := ev_eq (ins := ins.map fun x => t * x) (s := t * s) (by rw [lst_mul (by omega)]; exact Int.mul_le_mul_of_nonneg_left e4 (by omega)) g5
  have c2 : g < t * (e + 1) := by
    rcases Int.lt_or_le g (t * (e + 1)) with h | h
    · exact h
    · have u := lst_up (ins := ins.map fun x => t * x) h
      rw [lst_mul (by omega)] at u
      have := Int.mul_lt_mul_of_pos_left e5 ht
      omega
  refine ⟨e, g, e2, e1, g1, f1, by rw [m1, am], e4, e5, ?_, b1, b2⟩
  rw [Int.fdiv_eq_ediv_of_nonneg _ (by omega)]
  have d1 : e ≤ g / t := (Int.le_ediv_iff_mul_le ht).mpr (by rw [Int.mul_comm]; exact c1)
  have d2 : g / t < e + 1 := (Int.ediv_lt_iff_lt_mul ht).mpr (by rw [Int.mul_comm]; exact c2)
  omega
theorem size_W' {n : Nat} (hn : 30 ≤ n) (ns l : List Int) (hns : ns.length ≤ 63) : W (callF G P n 21 [.cell (l.map D.int), .val (.fl (ns.map D.int))]) fun p => ∃ (l' : List Int), p = (.val (.bl true), [.cell (l'.map D.int), .val (.fl (ns.map D.int))]) := by
  obtain ⟨n, rfl⟩ := fuel hn
  rw [callF_succ (fn := f_l_law_size_right) rfl]; refine run_ok rfl rfl ?_
  have sm := fun n (hn : 8 ≤ n) d (hd : Fl 8 d) => @same_n G P 15 (.inl rfl) n d hn hd
  have h20 : ((10 : Int) ^ 20) ≠ 0 := by decide
  have f0 : ∀ x : Int, 0 ≤ x.fmod (10 ^ 20) := fun x => Int.fmod_nonneg_of_pos x (by decide)
  wtm_at "g"
  refine W_mono (size_W (by omega) ns _ hns) ?_
  rintro p ⟨v, l2, rfl, hv⟩
  have hb := f0 v
  wtm_at "g"
  generalize hs : (if (_ : Int) = 0 then (1 : Int) else _) = b
  replace hs : 0 < b := by subst hs; wtm_at "ifs"
  refine W_mono (lins_W (by omega) _ _ b (by omega) (by omega) (by omega)) ?_
  rintro p ⟨ins, l', rfl, il, ib⟩
  have i9 : ins.length ≤ 9 := by omega
  have i0 : 0 < ins.length := by omega
  have mk : ∀ z : Int, z.natAbs ≤ 100 → mulOk b z = true := fun z hz => mulOk_r (by omega)
  clear ib il f0 hb
  wtm_at "g"
  rename_i z lz z0 z1 _ _
  generalize b * z = out at *
  have c10 := fun n (hn : 1 ≤ n) => @least_ok n hn ins (by omega) out
  have c20a := fun n (hn : 1 ≤ n) => @played_ok n hn ins (by omega) out (lst ins out)
  have c20b := fun n (hn : 1 ≤ n) => @played_ok n hn ins (by omega) out (lst ins out - 1)
  have c10r := fun n (hn : 1 ≤ n) => @least_ok n hn ins.reverse (by rw [List.length_reverse]; omega) out
  have c10b := fun n (hn : 1 ≤ n) => @least_ok n hn ins (by omega) (out + b)
  have c10c := fun n (hn : 1 ≤ n) => @least_ok n hn (ins.map fun x => x + b) (by rw [List.length_map]; omega) (out + b)
  have c10d := fun n (hn : 1 ≤ n) => @least_ok n hn (ins.map fun x => x + 1) (by rw [List.length_map]; omega) out
  have c10e := fun n (hn : 1 ≤ n) => @least_ok n hn (ins ++ ins) (by rw [List.length_append]; omega) (mnL ins)
  rw [lst_rev] at c10r
  rw [lst_add] at c10c
  rw [lst_min2] at c10e
  rw [show lst ins out - lst ins out = 0 by omega] at c20a
  rw [show lst ins out - 1 - lst ins out = -1 by omega] at c20b
  have ec : (ins.map fun x => x + b).map D.int = ins.map fun x => D.int (x + b) := by rw [List.map_map]; rfl
  have ed : (ins.map fun x => x + 1).map D.int = ins.map fun x => D.int (x + 1) := by rw [List.map_map]; rfl
  unfold tI at c10c c10d c10e c10r
  rw [ec] at c10c
  rw [ed] at c10d
  rw [List.map_append] at c10e
  have bm9 := (b_mnI (l := ins) i0).2
  have n1 : ¬ max 0 (ins.map fun x => max 0 (out - x)).sum < lst ins out := by have := @lst_sum ins out; omega
  have n2 : ¬ lst ins (out + b) < lst ins out := Int.not_lt.mpr (lst_up (by omega))
  have n3 : ¬ lst ins out < lst (ins.map fun x => x + 1) out := Int.not_lt.mpr lst_one
  have n4 : ¬ lst ins out < 0 := Int.not_lt.mpr lst_nn
  have lm := fun t (ht : 0 ≤ t) => @lst_mul ins out t ht
  clear ec ed z0 z1
  generalize hK : lst ins out = K at *
  generalize lst ins (out + b) = K2 at *
  generalize lst (ins.map fun x => x + 1) out = K3 at *
  wtm_at "g"
  refine W_cM (fun x => D.int (max 0 (out - x))) ?_ ?_
  · intro x hx
    clear c10 c10b c10c c10d c10e c10r c20a c20b sm
    wtm_at "g"
  · wtm_at "g"
    refine W_cM (fun x => D.int (x + b)) ?_ ?_
    · intro x hx
      clear c10 c10b c10c c10d c10e c10r c20a c20b sm
      wtm_at "g"
    · wtm_at "g"
      refine W_cM (fun x => D.int (x + 1)) ?_ ?_
      · intro x hx
        clear c10 c10b c10c c10d c10e c10r c20a c20b sm
        wtm_at "g"
      · wtm_at "g"
        rename_i z lz z0 z1 _ _
        have s0 : 0 ≤ b * z := Int.mul_nonneg (by omega) z0
        generalize b * z = s at *
        obtain ⟨e, e1, -, -, e4, e5⟩ := ev_law i0 s0
        have ex := fun t (ht : 0 < t) => @even_laws ins i0 s b t s0 (by omega) ht
        have c11 := fun n (hn : 1 ≤ n) => @even_ok n hn ins (by omega) s
        have c12a := fun n (hn : 2 ≤ n) => @kept_ok n hn ins (by omega) e s
        have c12b := fun n (hn : 2 ≤ n) => @kept_ok n hn ins (by omega) (e + 1) s
        have c10f := fun n (hn : 1 ≤ n) => @least_ok n hn ins (by omega) e
        rw [e1] at c11
        rw [decide_eq_true e4] at c12a
        rw [decide_eq_false (by omega : ¬ lst ins (e + 1) ≤ s)] at c12b
        have n5 : ¬ s < lst ins e := by omega
        clear c10b c10c c10d c10e c10r c20a c20b z0 z1
        generalize lst ins e = K5 at *
        wtm_at "g"
        rename_i t lt t0 t1 _ _
        obtain ⟨e', g, e2, x1, x2, x3, x4, x5, x6, x7, x8, x9⟩ := ex (1 + t) (by omega)
        have ee : e' = e := by rw [x1] at e1; injection e1
        subst ee
        have d11 := fun n (hn : 1 ≤ n) => @even_ok n hn (ins.map fun x => (1 + t) * x) (by rw [List.length_map]; omega) ((1 + t) * s)
        have f11 := fun n (hn : 1 ≤ n) => @even_ok n hn ins (by omega) (s + b)
        have g11 := fun n (hn : 1 ≤ n) => @even_ok n hn ins (by omega) 0
        have d10 := fun n (hn : 1 ≤ n) => @least_ok n hn (ins.map fun x => (1 + t) * x) (by rw [List.length_map]; omega) ((1 + t) * out)
        rw [lm (1 + t) (by omega)] at d10
        rw [x2] at d11
        rw [x3] at f11
        rw [x4] at g11
        have et : (ins.map fun x => (1 + t) * x).map D.int = ins.map fun x => D.int ((1 + t) * x) := by rw [List.map_map]; rfl
        unfold tI at d11 d10
        rw [et] at d11 d10
        have n6 : ¬ e2 < e' := Int.not_lt.mpr x8
        have n7 : ¬ e' < mnL ins := Int.not_lt.mpr x9
        have m1 : ∀ x : Int, mulOk (1 + t) x = true := fun x => mulOk_l (by omega)
        have dk : divOk (1 + t) = true := divOk_of (by omega) (by omega)
        clear et ex x1 x2 x3 x4 x5 x6 x8 x9 lm c11 c12a c12b c10f e4 e5 e1
        generalize mnL ins = mn at *
        refine W_cM (fun x => D.int ((1 + t) * x)) ?_ ?_
        · intro x hx
          clear d11 f11 g11 d10 c10 sm
          wtm_at "g"
        · wtm_at "g"
          refine W_cM (fun x => D.int ((1 + t) * x)) ?_ ?_
          · intro x hx
            clear d11 f11 g11 d10 c10 sm
            wtm_at "g"
          · wtm_at "g"
            exact ⟨_, rfl⟩
end K30

set_option exponentiation.threshold 100000
namespace K30
open Mini PL
local macro_rules | `(tactic| wtm_at "fl") => `(tactic| first | exact Fl_int | exact Fl_bl | exact Fl_non | exact Fl_str | assumption | (refine Fl_ite ?_ ?_ <;> wtm_at "fl") | (refine Fl_hd (fun _ _ => ?_) ?_ <;> wtm_at "fl") | (refine Fl_map (fun _ _ => ?_) ?_; (wtm_at "fl"); (first | omega | (simp only [List.length_map, List.length_range, List.length_cons, List.length_nil, List.length_append, List.length_set, List.length_reverse, List.length_take, List.length_drop, List.length_dropLast]; omega) | (simp only [*]; omega))) | (refine Fl_tupL ?_ ?_; (first | omega | (simp only [List.length_map, List.length_range, List.length_cons, List.length_nil, List.length_append, List.length_set, List.length_reverse, List.length_take, List.length_drop, List.length_dropLast]; omega) | (simp only [*]; omega)); wtm_at "fl") | exact FlL_nil | (refine FlL_cons ?_ ?_ <;> wtm_at "fl") | (refine FlL_app ?_ ?_ <;> wtm_at "fl") | (refine FlL_map (fun _ _ => ?_); wtm_at "fl"))
local macro_rules | `(tactic| wtm_at "w") => `(tactic| simp (maxSteps := 2000000) (disch := (first | omega | assumption | (refine tv_nn ?_; omega) | (refine tv_lt ?_; omega) | (refine tv_na ?_ ?_ <;> omega) | (wtm_at "fl") | (simp only [List.length_map, List.length_range, List.length_cons, List.length_nil, List.length_append, List.length_set, List.length_reverse, List.length_take, List.length_drop, List.length_dropLast]; omega))) only [true_implies, false_implies, implies_true, not_true_eq_false, ne_eq, Int.reduceEq, Int.reduceNeg, Int.reduceToNat, reduceCtorEq, Bool.not_true, Bool.not_false, Classical.not_not, Int.toNat_natCast, MS.rngList_len, Nat.zero_le, List.contains_nil, Bool.and_true, Bool.true_and, Bool.and_false, Bool.false_and, List.map_nil, List.append_nil, Nat.reduceLT, Nat.reduceLeDiff, Int.reduceLT, Int.reduceLE, Nat.reduceMul, Int.reduceMul, Int.reduceAdd, Int.reduceSub, List.length_cons, List.length_nil, Nat.reduceAdd, Nat.reduceSub, Nat.zero_add, List.getElem?_cons_zero, List.getElem?_cons_succ, List.contains_cons, Nat.reduceBEq, Bool.or_false, Bool.or_true, Bool.false_or, outB_0, outB_1, outB_2, outB_3, outB_4, outB_5, outB_6, outB_7, outB_8, eq_ss, eq_nn, X_non, X_bl, T_bl, X_int, X_str, X_var, T_var, X_gl, X_tup, X_lst, X_bin, X_neg, X_cmp, T_cmp, X_chain, T_chain, X_isN', T_isN, isNon_non, isNon_int, isNon_tup, isNon_str, isNon_bl, eqt, eqf, X_isB, T_isB, X_ite, X_idx, T_idx, X_slT, X_slF, X_slB, X_rev, X_call, T_call, X_bi, T_bi, X_pop, X_popAt, X_mt, T_mt, X_rng, T_bin, X_not, T_not, X_and, T_and, X_or, T_or, V_nil, V_cons, R_nil, R_cons, AV_nil, AV_cons, OV_nil, OV_cons, A_nil, A_cons, O_nil, O_cons, S_asg, S_asgT, S_par, S_setI, S_aug, S_app, S_revI, S_expr, S_ret, S_retN, S_ite, S_for, S_while, S_brk, S_pass, S_kill, W_some, W_none, W_bind, W_map, W_ite, get0, getS, List.set_cons_zero, List.set_cons_succ, fin_f, fin_t, tst_eq, blR_bl, pk_val, pk_own, pk_ref, fz_val, fz_own, fz_ref, bindR_val, bindR_own, bindR_ref, intD_int, tru_bl, tru_int, tru_vl, tru_tup, tru_fl, tru_non, pks, bindT, setAll, bindRs, unref, wipe, unlock, itR, callB, refs, argB, argB1, backB, back1, noRef, augC, add_i, sub_i, badd_i, badd_t, bsub_i, c_eq, c_ne, c_lt, c_le, c_gt, c_ge, c_in_t, c_in_l, c_nin_t, c_nin_l, dok_l, dok_r, dep_int, dep_bl, dep_non, dep_str, eq_ii, eq_bb, b_len_t, b_len_v, b_len_f, b_tup_t, b_tup_v, b_tup_f, b_lst_t, b_lst_v, b_lst_f, b_min2, b_max2, b_abs, b_int_i, b_int_b, b_isB, b_isI, b_isS, b_isT, b_sum_v, b_sum_t, b_any_v, b_all_v, popL, outR_val, outR_own, outR_ref, List.nodup_nil, List.nodup_cons, List.not_mem_nil, not_false_eq_true, and_self, if_true, Bool.false_eq_true, if_false, List.mem_cons, or_false, true_and, and_true, decide_eq_true_eq, beq_iff_eq, Option.map_some, Option.bind_some, List.length_map, List.nil_append, List.cons_append, List.replicate, X_compR, X_compIfR, lim_ok, lim_filter, r1', r2', mul_i, bmul_i, fdiv_i, bfdiv_i, pow_i, mulOk_l, mulOk_r, divOk_of, powOk_of, modS, add_tS, add_lS, mul_lS, iT, iV, iTi, iVi, it0, it1, it2, it3, it4, iv0, iv1, iv2, iv3, iv_p, it_p, rev_t, rev_v, mn_v, mn_t, mx_v, mx_t, isin_bf, all_t, any_t, ← List.map_reverse, eqD_s, dok_s, iv2_i, iv3_i, max_cons, min_cons, idx_last, idx_lastT, setC_last, popI_eq, popC_ok, beq_self_eq_true, bne_self_eq_false, Int.reduceBEq, Int.reduceBNe, idx_hd, dok_ints, isin_nat, isin_int, ite_ints, appL_eq, appC_ok, setL_eq, setC_ok, setC_i, slT_t, slF_t, slT_v, slF_v, r3', tn1, tn2, ← List.map_take, ← List.map_drop, ints_f, sum_v, sum_t, any_v, all_v, if_and, if_or, Int.cast_ofNat_Int, Int.zero_add, Int.add_zero, Bool.and_eq_true, Bool.or_eq_true, Bool.not_eq_true, Bool.not_eq_eq_eq_not, decide_eq_false_iff_not, decide_true, decide_false, List.length_range, Bool.decide_eq_true, List.isEmpty_cons])
local macro_rules | `(tactic| wtm_at "wx") => `(tactic| simp (maxSteps := 2000000) (disch := (first | omega | assumption | (refine tv_nn ?_; omega) | (refine tv_lt ?_; omega) | (refine tv_na ?_ ?_ <;> omega) | (wtm_at "fl") | (simp only [List.length_map, List.length_range, List.length_cons, List.length_nil, List.length_append, List.length_set, List.length_reverse, List.length_take, List.length_drop, List.length_dropLast]; omega))) only [*, true_implies, false_implies, implies_true, not_true_eq_false, ne_eq, Int.reduceEq, Int.reduceNeg, Int.reduceToNat, reduceCtorEq, Bool.not_true, Bool.not_false, Classical.not_not, Int.toNat_natCast, MS.rngList_len, Nat.zero_le, List.contains_nil, Bool.and_true, Bool.true_and, Bool.and_false, Bool.false_and, List.map_nil, List.append_nil, Nat.reduceLT, Nat.reduceLeDiff, Int.reduceLT, Int.reduceLE, Nat.reduceMul, Int.reduceMul, Int.reduceAdd, Int.reduceSub, List.length_cons, List.length_nil, Nat.reduceAdd, Nat.reduceSub, Nat.zero_add, List.getElem?_cons_zero, List.getElem?_cons_succ, List.contains_cons, Nat.reduceBEq, Bool.or_false, Bool.or_true, Bool.false_or, outB_0, outB_1, outB_2, outB_3, outB_4, outB_5, outB_6, outB_7, outB_8, eq_ss, eq_nn, X_non, X_bl, T_bl, X_int, X_str, X_var, T_var, X_gl, X_tup, X_lst, X_bin, X_neg, X_cmp, T_cmp, X_chain, T_chain, X_isN', T_isN, isNon_non, isNon_int, isNon_tup, isNon_str, isNon_bl, eqt, eqf, X_isB, T_isB, X_ite, X_idx, T_idx, X_slT, X_slF, X_slB, X_rev, X_call, T_call, X_bi, T_bi, X_pop, X_popAt, X_mt, T_mt, X_rng, T_bin, X_not, T_not, X_and, T_and, X_or, T_or, V_nil, V_cons, R_nil, R_cons, AV_nil, AV_cons, OV_nil, OV_cons, A_nil, A_cons, O_nil, O_cons, S_asg, S_asgT, S_par, S_setI, S_aug, S_app, S_revI, S_expr, S_ret, S_retN, S_ite, S_for, S_while, S_brk, S_pass, S_kill, W_some, W_none, W_bind, W_map, W_ite, get0, getS, List.set_cons_zero, List.set_cons_succ, fin_f, fin_t, tst_eq, blR_bl, pk_val, pk_own, pk_ref, fz_val, fz_own, fz_ref, bindR_val, bindR_own, bindR_ref, intD_int, tru_bl, tru_int, tru_vl, tru_tup, tru_fl, tru_non, pks, bindT, setAll, bindRs, unref, wipe, unlock, itR, callB, refs, argB, argB1, backB, back1, noRef, augC, add_i, sub_i, badd_i, badd_t, bsub_i, c_eq, c_ne, c_lt, c_le, c_gt, c_ge, c_in_t, c_in_l, c_nin_t, c_nin_l, dok_l, dok_r, dep_int, dep_bl, dep_non, dep_str, eq_ii, eq_bb, b_len_t, b_len_v, b_len_f, b_tup_t, b_tup_v, b_tup_f, b_lst_t, b_lst_v, b_lst_f, b_min2, b_max2, b_abs, b_int_i, b_int_b, b_isB, b_isI, b_isS, b_isT, b_sum_v, b_sum_t, b_any_v, b_all_v, popL, outR_val, outR_own, outR_ref, List.nodup_nil, List.nodup_cons, List.not_mem_nil, not_false_eq_true, and_self, if_true, Bool.false_eq_true, if_false, List.mem_cons, or_false, true_and, and_true, decide_eq_true_eq, beq_iff_eq, Option.map_some, Option.bind_some, List.length_map, List.nil_append, List.cons_append, List.replicate, X_compR, X_compIfR, lim_ok, lim_filter, r1', r2', mul_i, bmul_i, fdiv_i, bfdiv_i, pow_i, mulOk_l, mulOk_r, divOk_of, powOk_of, modS, add_tS, add_lS, mul_lS, iT, iV, iTi, iVi, it0, it1, it2, it3, it4, iv0, iv1, iv2, iv3, iv_p, it_p, rev_t, rev_v, mn_v, mn_t, mx_v, mx_t, isin_bf, all_t, any_t, ← List.map_reverse, eqD_s, dok_s, iv2_i, iv3_i, max_cons, min_cons, idx_last, idx_lastT, setC_last, popI_eq, popC_ok, beq_self_eq_true, bne_self_eq_false, Int.reduceBEq, Int.reduceBNe, idx_hd, dok_ints, isin_nat, isin_int, ite_ints, appL_eq, appC_ok, setL_eq, setC_ok, setC_i, slT_t, slF_t, slT_v, slF_v, r3', tn1, tn2, ← List.map_take, ← List.map_drop, ints_f, sum_v, sum_t, any_v, all_v, if_and, if_or, Int.cast_ofNat_Int, Int.zero_add, Int.add_zero, Bool.and_eq_true, Bool.or_eq_true, Bool.not_eq_true, Bool.not_eq_eq_eq_not, decide_eq_false_iff_not, decide_true, decide_false, List.length_range, Bool.decide_eq_true, List.isEmpty_cons])
local macro_rules | `(tactic| wtm_at "s1") => `(tactic| (first | refine W_st ?_ | refine W_sn ?_) <;> (try wtm_at "wx"))
local macro_rules | `(tactic| wtm_at "go") => `(tactic| ((try simp only [bindT, setAll, Option.bind_some, List.set_cons_zero, List.set_cons_succ]); (first | (wtm_at "s1") | (wtm_at "wx")); repeat (wtm_at "s1")))
local macro_rules | `(tactic| wtm_at "s1") => `(tactic| first | (refine W_sK fun _ _ => ?_; try wtm_at "wx") | (refine W_sn ?_; try wtm_at "wx") | (refine KK.nx (by assumption) ?_; try wtm_at "wx") | (refine KK.rt (by assumption) ?_; try wtm_at "wx") | (refine KK.bk (by assumption) ?_; try wtm_at "wx"))
local macro_rules | `(tactic| wtm_at "go") => `(tactic| ((try simp only [bindT, setAll, Option.bind_some, List.set_cons_zero, List.set_cons_succ]); (first | (wtm_at "s1") | (wtm_at "wx")); repeat (wtm_at "s1")))
local macro_rules | `(tactic| wtm_at "ws") => `(tactic| ((wtm_at "s1"); repeat (wtm_at "s1")))
local macro_rules | `(tactic| wtm_at "tk") => `(tactic| ((first | refine take_q (by rfl) (by omega) (by omega) ?_); intro _ _ _ _; (try wtm_at "wx")))
local macro_rules | `(tactic| wtm_at "g") => `(tactic| ((try simp only [bindT, setAll, Option.bind_some, List.set_cons_zero, List.set_cons_succ]); (first | (wtm_at "tk") | (wtm_at "s1") | (wtm_at "wx")); repeat (first | (wtm_at "tk") | (wtm_at "s1"))))
local macro_rules | `(tactic| wtm_at "gg") => `(tactic| ((try wtm_at "g"); (try (refine ⟨fun _ => ?_, fun _ => ?_⟩ <;> wtm_at "gg"))))
local macro_rules | `(tactic| wtm_at "ifs") => `(tactic| ((repeat' split) <;> omega))

theorem fx0h_00 : callF G P 97 1 [.val (.tup [.int 0, .int 1]), .val (.tup [.int 3, .int 1])] = some (.val (.tup [.int 3, .int 1]), [.val (.tup [.int 0, .int 1]), .val (.tup [.int 3, .int 1])]) := rfl
theorem fx0h_01 : callF G P 97 5 [.val (.tup [.tup [.int 0, .int 0], .tup [.int 4, .int 4], .tup [.int 10, .int 4]]), .val (.tup [.int 3, .int 1])] = some (.val (.tup [.int 3, .int 1]), [.val (.tup [.tup [.int 0, .int 0], .tup [.int 4, .int 4], .tup [.int 10, .int 4]]), .val (.tup [.int 3, .int 1])]) := rfl
theorem fx0h_02 : callF G P 97 4 [.val (.tup [.int 3, .int 1]), .val (.tup [.int 3, .int 1])] = some (.val (.bl false), [.val (.tup [.int 3, .int 1]), .val (.tup [.int 3, .int 1])]) := rfl
theorem fx0h_03 : callF G P 97 2 [.val (.tup [.int 3, .int 1]), .val (.tup [.int 3, .int 1])] = some (.val (.tup [.int 0, .int 1]), [.val (.tup [.int 3, .int 1]), .val (.tup [.int 3, .int 1])]) := rfl
theorem fx0h_10 : callF G P 97 1 [.val (.tup [.int 0, .int 1]), .val (.tup [.int 9, .int 1])] = some (.val (.tup [.int 9, .int 1]), [.val (.tup [.int 0, .int 1]), .val (.tup [.int 9, .int 1])]) := rfl
theorem fx0h_11 : callF G P 97 5 [.val (.tup [.tup [.int 0, .int 0], .tup [.int 4, .int 4], .tup [.int 10, .int 4]]), .val (.tup [.int 9, .int 1])] = some (.val (.tup [.int 4, .int 1]), [.val (.tup [.tup [.int 0, .int 0], .tup [.int 4, .int 4], .tup [.int 10, .int 4]]), .val (.tup [.int 9, .int 1])]) := rfl
theorem fx0h_12 : callF G P 97 4 [.val (.tup [.int 9, .int 1]), .val (.tup [.int 4, .int 1])] = some (.val (.bl false), [.val (.tup [.int 9, .int 1]), .val (.tup [.int 4, .int 1])]) := rfl
theorem fx0h_13 : callF G P 97 2 [.val (.tup [.int 9, .int 1]), .val (.tup [.int 4, .int 1])] = some (.val (.tup [.int 5, .int 1]), [.val (.tup [.int 9, .int 1]), .val (.tup [.int 4, .int 1])]) := rfl
theorem fx0h_20 : callF G P 97 1 [.val (.tup [.int 5, .int 1]), .val (.tup [.int 0, .int 1])] = some (.val (.tup [.int 5, .int 1]), [.val (.tup [.int 5, .int 1]), .val (.tup [.int 0, .int 1])]) := rfl
theorem fx0h_21 : callF G P 97 5 [.val (.tup [.tup [.int 0, .int 0], .tup [.int 4, .int 4], .tup [.int 10, .int 4]]), .val (.tup [.int 5, .int 1])] = some (.val (.tup [.int 4, .int 1]), [.val (.tup [.tup [.int 0, .int 0], .tup [.int 4, .int 4], .tup [.int 10, .int 4]]), .val (.tup [.int 5, .int 1])]) := rfl
theorem fx0h_22 : callF G P 97 4 [.val (.tup [.int 5, .int 1]), .val (.tup [.int 4, .int 1])] = some (.val (.bl false), [.val (.tup [.int 5, .int 1]), .val (.tup [.int 4, .int 1])]) := rfl
theorem fx0h_23 : callF G P 97 2 [.val (.tup [.int 5, .int 1]), .val (.tup [.int 4, .int 1])] = some (.val (.tup [.int 1, .int 1]), [.val (.tup [.int 5, .int 1]), .val (.tup [.int 4, .int 1])]) := rfl
theorem fx0h_s0 {Φ : Calls} (h0 : Φ 1 [.val (.tup [.int 0, .int 1]), .val (.tup [.int 3, .int 1])] = some (.val (.tup [.int 3, .int 1]), [.val (.tup [.int 0, .int 1]), .val (.tup [.int 3, .int 1])])) (h1 : Φ 5 [.val (.tup [.tup [.int 0, .int 0], .tup [.int 4, .int 4], .tup [.int 10, .int 4]]), .val (.tup [.int 3, .int 1])] = some (.val (.tup [.int 3, .int 1]), [.val (.tup [.tup [.int 0, .int 0], .tup [.int 4, .int 4], .tup [.int 10, .int 4]]), .val (.tup [.int 3, .int 1])])) (h2 : Φ 4 [.val (.tup [.int 3, .int 1]), .val (.tup [.int 3, .int 1])] = some (.val (.bl false), [.val (.tup [.int 3, .int 1]), .val (.tup [.int 3, .int 1])])) (h3 : Φ 2 [.val (.tup [.int 3, .int 1]), .val (.tup [.int 3, .int 1])] = some (.val (.tup [.int 0, .int 1]), [.val (.tup [.int 3, .int 1]), .val (.tup [.int 3, .int 1])])) {Q : Out × Env → Prop} (q : Q (.next, [.val (.tup [.tup [.int 0, .int 0], .tup [.int 4, .int 4], .tup [.int 10, .int 4]]), .val (.tup [.int 0, .int 1]), .val (.tup [.int 3, .int 9, .int 0]), .cell [.tup [.tup [.int 0, .int 1], .tup [.int 3, .int 1]]], .no, .no, .no])) : W ((bindT ([.val (.tup [.tup [.int 0, .int 0], .tup [.int 4, .int 4], .tup [.int 10, .int 4]]), .val (.tup [.int 0, .int 1]), .val (.tup [.int 3, .int 9, .int 0]), .cell [], .no, .no, .no]) (.nm 4) (.int 3)).bind fun e => exSs G Φ b_hours_of_1 e) Q := by
  unfold b_hours_of_1
  wtm_at "go"
theorem fx0h_s1 {Φ : Calls} (h0 : Φ 1 [.val (.tup [.int 0, .int 1]), .val (.tup [.int 9, .int 1])] = some (.val (.tup [.int 9, .int 1]), [.val (.tup [.int 0, .int 1]), .val (.tup [.int 9, .int 1])])) (h1 : Φ 5 [.val (.tup [.tup [.int 0, .int 0], .tup [.int 4, .int 4], .tup [.int 10, .int 4]]), .val (.tup [.int 9, .int 1])] = some (.val (.tup [.int 4, .int 1]), [.val (.tup [.tup [.int 0, .int 0], .tup [.int 4, .int 4], .tup [.int 10, .int 4]]), .val (.tup [.int 9, .int 1])])) (h2 : Φ 4 [.val (.tup [.int 9, .int 1]), .val (.tup [.int 4, .int 1])] = some (.val (.bl false), [.val (.tup [.int 9, .int 1]), .val (.tup [.int 4, .int 1])])) (h3 : Φ 2 [.val (.tup [.int 9, .int 1]), .val (.tup [.int 4, .int 1])] = some (.val (.tup [.int 5, .int 1]), [.val (.tup [.int 9, .int 1]), .val (.tup [.int 4, .int 1])])) {Q : Out × Env → Prop} (q : Q (.next, [.val (.tup [.tup [.int 0, .int 0], .tup [.int 4, .int 4], .tup [.int 10, .int 4]]), .val (.tup [.int 5, .int 1]), .val (.tup [.int 3, .int 9, .int 0]), .cell [.tup [.tup [.int 0, .int 1], .tup [.int 3, .int 1]], .tup [.tup [.int 5, .int 1], .tup [.int 4, .int 1]]], .no, .no, .no])) : W ((bindT ([.val (.tup [.tup [.int 0, .int 0], .tup [.int 4, .int 4], .tup [.int 10, .int 4]]), .val (.tup [.int 0, .int 1]), .val (.tup [.int 3, .int 9, .int 0]), .cell [.tup [.tup [.int 0, .int 1], .tup [.int 3, .int 1]]], .no, .no, .no]) (.nm 4) (.int 9)).bind fun e => exSs G Φ b_hours_of_1 e) Q := by
  unfold b_hours_of_1
  wtm_at "go"
theorem fx0h_s2 {Φ : Calls} (h0 : Φ 1 [.val (.tup [.int 5, .int 1]), .val (.tup [.int 0, .int 1])] = some (.val (.tup [.int 5, .int 1]), [.val (.tup [.int 5, .int 1]), .val (.tup [.int 0, .int 1])])) (h1 : Φ 5 [.val (.tup [.tup [.int 0, .int 0], .tup [.int 4, .int 4], .tup [.int 10, .int 4]]), .val (.tup [.int 5, .int 1])] = some (.val (.tup [.int 4, .int 1]), [.val (.tup [.tup [.int 0, .int 0], .tup [.int 4, .int 4], .tup [.int 10, .int 4]]), .val (.tup [.int 5, .int 1])])) (h2 : Φ 4 [.val (.tup [.int 5, .int 1]), .val (.tup [.int 4, .int 1])] = some (.val (.bl false), [.val (.tup [.int 5, .int 1]), .val (.tup [.int 4, .int 1])])) (h3 : Φ 2 [.val (.tup [.int 5, .int 1]), .val (.tup [.int 4, .int 1])] = some (.val (.tup [.int 1, .int 1]), [.val (.tup [.int 5, .int 1]), .val (.tup [.int 4, .int 1])])) {Q : Out × Env → Prop} (q : Q (.next, [.val (.tup [.tup [.int 0, .int 0], .tup [.int 4, .int 4], .tup [.int 10, .int 4]]), .val (.tup [.int 1, .int 1]), .val (.tup [.int 3, .int 9, .int 0]), .cell [.tup [.tup [.int 0, .int 1], .tup [.int 3, .int 1]], .tup [.tup [.int 5, .int 1], .tup [.int 4, .int 1]], .tup [.tup [.int 1, .int 1], .tup [.int 4, .int 1]]], .no, .no, .no])) : W ((bindT ([.val (.tup [.tup [.int 0, .int 0], .tup [.int 4, .int 4], .tup [.int 10, .int 4]]), .val (.tup [.int 5, .int 1]), .val (.tup [.int 3, .int 9, .int 0]), .cell [.tup [.tup [.int 0, .int 1], .tup [.int 3, .int 1]], .tup [.tup [.int 5, .int 1], .tup [.int 4, .int 1]]], .no, .no, .no]) (.nm 4) (.int 0)).bind fun e => exSs G Φ b_hours_of_1 e) Q := by
  unfold b_hours_of_1
  wtm_at "go"
def fx0h_S (i : Nat) : Env := match i with
  | 0 => [.val (.tup [.tup [.int 0, .int 0], .tup [.int 4, .int 4], .tup [.int 10, .int 4]]), .val (.tup [.int 0, .int 1]), .val (.tup [.int 3, .int 9, .int 0]), .cell [], .no, .no, .no]
  | 1 => [.val (.tup [.tup [.int 0, .int 0], .tup [.int 4, .int 4], .tup [.int 10, .int 4]]), .val (.tup [.int 0, .int 1]), .val (.tup [.int 3, .int 9, .int 0]), .cell [.tup [.tup [.int 0, .int 1], .tup [.int 3, .int 1]]], .no, .no, .no]
  | 2 => [.val (.tup [.tup [.int 0, .int 0], .tup [.int 4, .int 4], .tup [.int 10, .int 4]]), .val (.tup [.int 5, .int 1]), .val (.tup [.int 3, .int 9, .int 0]), .cell [.tup [.tup [.int 0, .int 1], .tup [.int 3, .int 1]], .tup [.tup [.int 5, .int 1], .tup [.int 4, .int 1]]], .no, .no, .no]
  | _ => [.val (.tup [.tup [.int 0, .int 0], .tup [.int 4, .int 4], .tup [.int 10, .int 4]]), .val (.tup [.int 1, .int 1]), .val (.tup [.int 3, .int 9, .int 0]), .cell [.tup [.tup [.int 0, .int 1], .tup [.int 3, .int 1]], .tup [.tup [.int 5, .int 1], .tup [.int 4, .int 1]], .tup [.tup [.int 1, .int 1], .tup [.int 4, .int 1]]], .no, .no, .no]
theorem fx0h_w {Φ : Calls} (h0 : ∀ Q : Out × Env → Prop, Q (.next, [.val (.tup [.tup [.int 0, .int 0], .tup [.int 4, .int 4], .tup [.int 10, .int 4]]), .val (.tup [.int 0, .int 1]), .val (.tup [.int 3, .int 9, .int 0]), .cell [.tup [.tup [.int 0, .int 1], .tup [.int 3, .int 1]]], .no, .no, .no]) → W ((bindT ([.val (.tup [.tup [.int 0, .int 0], .tup [.int 4, .int 4], .tup [.int 10, .int 4]]), .val (.tup [.int 0, .int 1]), .val (.tup [.int 3, .int 9, .int 0]), .cell [], .no, .no, .no]) (.nm 4) (.int 3)).bind fun e => exSs G Φ b_hours_of_1 e) Q) (h1 : ∀ Q : Out × Env → Prop, Q (.next, [.val (.tup [.tup [.int 0, .int 0], .tup [.int 4, .int 4], .tup [.int 10, .int 4]]), .val (.tup [.int 5, .int 1]), .val (.tup [.int 3, .int 9, .int 0]), .cell [.tup [.tup [.int 0, .int 1], .tup [.int 3, .int 1]], .tup [.tup [.int 5, .int 1], .tup [.int 4, .int 1]]], .no, .no, .no]) → W ((bindT ([.val (.tup [.tup [.int 0, .int 0], .tup [.int 4, .int 4], .tup [.int 10, .int 4]]), .val (.tup [.int 0, .int 1]), .val (.tup [.int 3, .int 9, .int 0]), .cell [.tup [.tup [.int 0, .int 1], .tup [.int 3, .int 1]]], .no, .no, .no]) (.nm 4) (.int 9)).bind fun e => exSs G Φ b_hours_of_1 e) Q) (h2 : ∀ Q : Out × Env → Prop, Q (.next, [.val (.tup [.tup [.int 0, .int 0], .tup [.int 4, .int 4], .tup [.int 10, .int 4]]), .val (.tup [.int 1, .int 1]), .val (.tup [.int 3, .int 9, .int 0]), .cell [.tup [.tup [.int 0, .int 1], .tup [.int 3, .int 1]], .tup [.tup [.int 5, .int 1], .tup [.int 4, .int 1]], .tup [.tup [.int 1, .int 1], .tup [.int 4, .int 1]]], .no, .no, .no]) → W ((bindT ([.val (.tup [.tup [.int 0, .int 0], .tup [.int 4, .int 4], .tup [.int 10, .int 4]]), .val (.tup [.int 5, .int 1]), .val (.tup [.int 3, .int 9, .int 0]), .cell [.tup [.tup [.int 0, .int 1], .tup [.int 3, .int 1]], .tup [.tup [.int 5, .int 1], .tup [.int 4, .int 1]]], .no, .no, .no]) (.nm 4) (.int 0)).bind fun e => exSs G Φ b_hours_of_1 e) Q) {Q : Out × Env → Prop} (q : Q (.ret (.ref 3), [.val (.tup [.tup [.int 0, .int 0], .tup [.int 4, .int 4], .tup [.int 10, .int 4]]), .val (.tup [.int 1, .int 1]), .val (.tup [.int 3, .int 9, .int 0]), .cell [.tup [.tup [.int 0, .int 1], .tup [.int 3, .int 1]], .tup [.tup [.int 5, .int 1], .tup [.int 4, .int 1]], .tup [.tup [.int 1, .int 1], .tup [.int 4, .int 1]]], .no, .no, .no])) : W (exSs G Φ f_hours_of.body [.val (.tup [.tup [.int 0, .int 0], .tup [.int 4, .int 4], .tup [.int 10, .int 4]]), .val (.tup [.int 0, .int 1]), .val (.tup [.int 3, .int 9, .int 0]), .no, .no, .no, .no]) Q := by
  unfold f_hours_of
  dsimp only
  wtm_at "go"
  show W (forE _ _ _ _ (([3, 9, 0] : List Int).map D.int) _) _
  refine W_fM (fun i e => e = fx0h_S i) rfl ?_ ?_
  · intro i a e hi ha he
    subst he
    match i, hi, ha with
    | 0, _, ha => cases ha; exact h0 _ rfl
    | 1, _, ha => cases ha; exact h1 _ rfl
    | 2, _, ha => cases ha; exact h2 _ rfl
  · intro e he
    subst he
    refine KK.nx (by assumption) ?_
    change W (exSs G _ _ [.val (.tup [.tup [.int 0, .int 0], .tup [.int 4, .int 4], .tup [.int 10, .int 4]]), .val (.tup [.int 1, .int 1]), .val (.tup [.int 3, .int 9, .int 0]), .cell [.tup [.tup [.int 0, .int 1], .tup [.int 3, .int 1]], .tup [.tup [.int 5, .int 1], .tup [.int 4, .int 1]], .tup [.tup [.int 1, .int 1], .tup [.int 4, .int 1]]], .no, .no, .no]) _
    wtm_at "go"
    try exact q
theorem fx0h : callF G P 98 6 [.val (.tup [.tup [.int 0, .int 0], .tup [.int 4, .int 4], .tup [.int 10, .int 4]]), .val (.tup [.int 0, .int 1]), .val (.tup [.int 3, .int 9, .int 0])] = some (.own [.tup [.tup [.int 0, .int 1], .tup [.int 3, .int 1]], .tup [.tup [.int 5, .int 1], .tup [.int 4, .int 1]], .tup [.tup [.int 1, .int 1], .tup [.int 4, .int 1]]], [.val (.tup [.tup [.int 0, .int 0], .tup [.int 4, .int 4], .tup [.int 10, .int 4]]), .no, .val (.tup [.int 3, .int 9, .int 0])]) := by
  show callF G P (97 + 1) 6 _ = _
  rw [callF_succ (fn := f_hours_of) rfl]; refine W.get (run_ok rfl rfl ?_)
  exact fx0h_w (fun Q q => fx0h_s0 fx0h_00 fx0h_01 fx0h_02 fx0h_03 q) (fun Q q => fx0h_s1 fx0h_10 fx0h_11 fx0h_12 fx0h_13 q) (fun Q q => fx0h_s2 fx0h_20 fx0h_21 fx0h_22 fx0h_23 q) ⟨_, rfl, rfl⟩
theorem fx0_c {Φ : Calls} (f : Φ 6 [.val (.tup [.tup [.int 0, .int 0], .tup [.int 4, .int 4], .tup [.int 10, .int 4]]), .val (.tup [.int 0, .int 1]), .val (.tup [.int 3, .int 9, .int 0])] = some (.own [.tup [.tup [.int 0, .int 1], .tup [.int 3, .int 1]], .tup [.tup [.int 5, .int 1], .tup [.int 4, .int 1]], .tup [.tup [.int 1, .int 1], .tup [.int 4, .int 1]]], [.val (.tup [.tup [.int 0, .int 0], .tup [.int 4, .int 4], .tup [.int 10, .int 4]]), .no, .val (.tup [.int 3, .int 9, .int 0])])) {Q : Out × Env → Prop} (q : Q (.ret (.val (.tup [.tup [.int 0, .int 1], .tup [.int 5, .int 1], .tup [.int 1, .int 1]])), [.val (.tup [.tup [.int 0, .int 0], .tup [.int 4, .int 4], .tup [.int 10, .int 4]]), .val (.tup [.int 0, .int 1]), .val (.tup [.int 3, .int 9, .int 0]), .no, .no])) : W (exSs G Φ f_held_after.body [.val (.tup [.tup [.int 0, .int 0], .tup [.int 4, .int 4], .tup [.int 10, .int 4]]), .val (.tup [.int 0, .int 1]), .val (.tup [.int 3, .int 9, .int 0]), .no, .no]) Q := by
  unfold f_held_after
  dsimp only
  wtm_at "go"
  show W (cmpR _ _ _ _ _ (([(.tup [.int 0, .int 1], .tup [.int 3, .int 1]), (.tup [.int 5, .int 1], .tup [.int 4, .int 1]), (.tup [.int 1, .int 1], .tup [.int 4, .int 1])] : List (D × D)).map fun q => D.tup [q.1, q.2]) _) _
  refine W_cM (fun q : D × D => q.1) ?_ ?_
  · rintro ⟨a, b⟩ _
    wtm_at "go"
  · wtm_at "go"
    try exact q
theorem fx0 : callF G P 99 7 [.val (.tup [.tup [.int 0, .int 0], .tup [.int 4, .int 4], .tup [.int 10, .int 4]]), .val (.tup [.int 0, .int 1]), .val (.tup [.int 3, .int 9, .int 0])] = some (.val (.tup [.tup [.int 0, .int 1], .tup [.int 5, .int 1], .tup [.int 1, .int 1]]), [.val (.tup [.tup [.int 0, .int 0], .tup [.int 4, .int 4], .tup [.int 10, .int 4]]), .val (.tup [.int 0, .int 1]), .val (.tup [.int 3, .int 9, .int 0])]) := by
  show callF G P (98 + 1) 7 _ = _
  rw [callF_succ (fn := f_held_after) rfl]; refine W.get (run_ok rfl rfl ?_)
  exact fx0_c fx0h ⟨_, rfl, rfl⟩
theorem fx1 : callF G P 99 15 [.val (.tup [(.tup [(.int 0), (.int 1)]), (.tup [(.int 5), (.int 1)]), (.tup [(.int 1), (.int 1)])]), .val (.tup [(.tup [(.int 0), (.int 1)]), (.tup [(.int 5), (.int 1)]), (.tup [(.int 1), (.int 1)])])] = some (.val (.bl true), [.val (.tup [(.tup [(.int 0), (.int 1)]), (.tup [(.int 5), (.int 1)]), (.tup [(.int 1), (.int 1)])]), .val (.tup [(.tup [(.int 0), (.int 1)]), (.tup [(.int 5), (.int 1)]), (.tup [(.int 1), (.int 1)])])]) := rfl
theorem fx2h_00 : callF G P 97 1 [.val (.tup [.int 0, .int 1]), .val (.tup [.int 3, .int 1])] = some (.val (.tup [.int 3, .int 1]), [.val (.tup [.int 0, .int 1]), .val (.tup [.int 3, .int 1])]) := rfl
theorem fx2h_01 : callF G P 97 5 [.val (.tup [.tup [.int 0, .int 0], .tup [.int 4, .int 4], .tup [.int 10, .int 4]]), .val (.tup [.int 3, .int 1])] = some (.val (.tup [.int 3, .int 1]), [.val (.tup [.tup [.int 0, .int 0], .tup [.int 4, .int 4], .tup [.int 10, .int 4]]), .val (.tup [.int 3, .int 1])]) := rfl
theorem fx2h_02 : callF G P 97 4 [.val (.tup [.int 3, .int 1]), .val (.tup [.int 3, .int 1])] = some (.val (.bl false), [.val (.tup [.int 3, .int 1]), .val (.tup [.int 3, .int 1])]) := rfl
theorem fx2h_03 : callF G P 97 2 [.val (.tup [.int 3, .int 1]), .val (.tup [.int 3, .int 1])] = some (.val (.tup [.int 0, .int 1]), [.val (.tup [.int 3, .int 1]), .val (.tup [.int 3, .int 1])]) := rfl
theorem fx2h_10 : callF G P 97 1 [.val (.tup [.int 0, .int 1]), .val (.tup [.int 9, .int 1])] = some (.val (.tup [.int 9, .int 1]), [.val (.tup [.int 0, .int 1]), .val (.tup [.int 9, .int 1])]) := rfl
theorem fx2h_11 : callF G P 97 5 [.val (.tup [.tup [.int 0, .int 0], .tup [.int 4, .int 4], .tup [.int 10, .int 4]]), .val (.tup [.int 9, .int 1])] = some (.val (.tup [.int 4, .int 1]), [.val (.tup [.tup [.int 0, .int 0], .tup [.int 4, .int 4], .tup [.int 10, .int 4]]), .val (.tup [.int 9, .int 1])]) := rfl
theorem fx2h_12 : callF G P 97 4 [.val (.tup [.int 9, .int 1]), .val (.tup [.int 4, .int 1])] = some (.val (.bl false), [.val (.tup [.int 9, .int 1]), .val (.tup [.int 4, .int 1])]) := rfl
theorem fx2h_13 : callF G P 97 2 [.val (.tup [.int 9, .int 1]), .val (.tup [.int 4, .int 1])] = some (.val (.tup [.int 5, .int 1]), [.val (.tup [.int 9, .int 1]), .val (.tup [.int 4, .int 1])]) := rfl
theorem fx2h_20 : callF G P 97 1 [.val (.tup [.int 5, .int 1]), .val (.tup [.int 0, .int 1])] = some (.val (.tup [.int 5, .int 1]), [.val (.tup [.int 5, .int 1]), .val (.tup [.int 0, .int 1])]) := rfl
theorem fx2h_21 : callF G P 97 5 [.val (.tup [.tup [.int 0, .int 0], .tup [.int 4, .int 4], .tup [.int 10, .int 4]]), .val (.tup [.int 5, .int 1])] = some (.val (.tup [.int 4, .int 1]), [.val (.tup [.tup [.int 0, .int 0], .tup [.int 4, .int 4], .tup [.int 10, .int 4]]), .val (.tup [.int 5, .int 1])]) := rfl
theorem fx2h_22 : callF G P 97 4 [.val (.tup [.int 5, .int 1]), .val (.tup [.int 4, .int 1])] = some (.val (.bl false), [.val (.tup [.int 5, .int 1]), .val (.tup [.int 4, .int 1])]) := rfl
theorem fx2h_23 : callF G P 97 2 [.val (.tup [.int 5, .int 1]), .val (.tup [.int 4, .int 1])] = some (.val (.tup [.int 1, .int 1]), [.val (.tup [.int 5, .int 1]), .val (.tup [.int 4, .int 1])]) := rfl
theorem fx2h_s0 {Φ : Calls} (h0 : Φ 1 [.val (.tup [.int 0, .int 1]), .val (.tup [.int 3, .int 1])] = some (.val (.tup [.int 3, .int 1]), [.val (.tup [.int 0, .int 1]), .val (.tup [.int 3, .int 1])])) (h1 : Φ 5 [.val (.tup [.tup [.int 0, .int 0], .tup [.int 4, .int 4], .tup [.int 10, .int 4]]), .val (.tup [.int 3, .int 1])] = some (.val (.tup [.int 3, .int 1]), [.val (.tup [.tup [.int 0, .int 0], .tup [.int 4, .int 4], .tup [.int 10, .int 4]]), .val (.tup [.int 3, .int 1])])) (h2 : Φ 4 [.val (.tup [.int 3, .int 1]), .val (.tup [.int 3, .int 1])] = some (.val (.bl false), [.val (.tup [.int 3, .int 1]), .val (.tup [.int 3, .int 1])])) (h3 : Φ 2 [.val (.tup [.int 3, .int 1]), .val (.tup [.int 3, .int 1])] = some (.val (.tup [.int 0, .int 1]), [.val (.tup [.int 3, .int 1]), .val (.tup [.int 3, .int 1])])) {Q : Out × Env → Prop} (q : Q (.next, [.val (.tup [.tup [.int 0, .int 0], .tup [.int 4, .int 4], .tup [.int 10, .int 4]]), .val (.tup [.int 0, .int 1]), .val (.tup [.int 3, .int 9, .int 0]), .cell [.tup [.tup [.int 0, .int 1], .tup [.int 3, .int 1]]], .no, .no, .no])) : W ((bindT ([.val (.tup [.tup [.int 0, .int 0], .tup [.int 4, .int 4], .tup [.int 10, .int 4]]), .val (.tup [.int 0, .int 1]), .val (.tup [.int 3, .int 9, .int 0]), .cell [], .no, .no, .no]) (.nm 4) (.int 3)).bind fun e => exSs G Φ b_hours_of_1 e) Q := by
  unfold b_hours_of_1
  wtm_at "go"
theorem fx2h_s1 {Φ : Calls} (h0 : Φ 1 [.val (.tup [.int 0, .int 1]), .val (.tup [.int 9, .int 1])] = some (.val (.tup [.int 9, .int 1]), [.val (.tup [.int 0, .int 1]), .val (.tup [.int 9, .int 1])])) (h1 : Φ 5 [.val (.tup [.tup [.int 0, .int 0], .tup [.int 4, .int 4], .tup [.int 10, .int 4]]), .val (.tup [.int 9, .int 1])] = some (.val (.tup [.int 4, .int 1]), [.val (.tup [.tup [.int 0, .int 0], .tup [.int 4, .int 4], .tup [.int 10, .int 4]]), .val (.tup [.int 9, .int 1])])) (h2 : Φ 4 [.val (.tup [.int 9, .int 1]), .val (.tup [.int 4, .int 1])] = some (.val (.bl false), [.val (.tup [.int 9, .int 1]), .val (.tup [.int 4, .int 1])])) (h3 : Φ 2 [.val (.tup [.int 9, .int 1]), .val (.tup [.int 4, .int 1])] = some (.val (.tup [.int 5, .int 1]), [.val (.tup [.int 9, .int 1]), .val (.tup [.int 4, .int 1])])) {Q : Out × Env → Prop} (q : Q (.next, [.val (.tup [.tup [.int 0, .int 0], .tup [.int 4, .int 4], .tup [.int 10, .int 4]]), .val (.tup [.int 5, .int 1]), .val (.tup [.int 3, .int 9, .int 0]), .cell [.tup [.tup [.int 0, .int 1], .tup [.int 3, .int 1]], .tup [.tup [.int 5, .int 1], .tup [.int 4, .int 1]]], .no, .no, .no])) : W ((bindT ([.val (.tup [.tup [.int 0, .int 0], .tup [.int 4, .int 4], .tup [.int 10, .int 4]]), .val (.tup [.int 0, .int 1]), .val (.tup [.int 3, .int 9, .int 0]), .cell [.tup [.tup [.int 0, .int 1], .tup [.int 3, .int 1]]], .no, .no, .no]) (.nm 4) (.int 9)).bind fun e => exSs G Φ b_hours_of_1 e) Q := by
  unfold b_hours_of_1
  wtm_at "go"
theorem fx2h_s2 {Φ : Calls} (h0 : Φ 1 [.val (.tup [.int 5, .int 1]), .val (.tup [.int 0, .int 1])] = some (.val (.tup [.int 5, .int 1]), [.val (.tup [.int 5, .int 1]), .val (.tup [.int 0, .int 1])])) (h1 : Φ 5 [.val (.tup [.tup [.int 0, .int 0], .tup [.int 4, .int 4], .tup [.int 10, .int 4]]), .val (.tup [.int 5, .int 1])] = some (.val (.tup [.int 4, .int 1]), [.val (.tup [.tup [.int 0, .int 0], .tup [.int 4, .int 4], .tup [.int 10, .int 4]]), .val (.tup [.int 5, .int 1])])) (h2 : Φ 4 [.val (.tup [.int 5, .int 1]), .val (.tup [.int 4, .int 1])] = some (.val (.bl false), [.val (.tup [.int 5, .int 1]), .val (.tup [.int 4, .int 1])])) (h3 : Φ 2 [.val (.tup [.int 5, .int 1]), .val (.tup [.int 4, .int 1])] = some (.val (.tup [.int 1, .int 1]), [.val (.tup [.int 5, .int 1]), .val (.tup [.int 4, .int 1])])) {Q : Out × Env → Prop} (q : Q (.next, [.val (.tup [.tup [.int 0, .int 0], .tup [.int 4, .int 4], .tup [.int 10, .int 4]]), .val (.tup [.int 1, .int 1]), .val (.tup [.int 3, .int 9, .int 0]), .cell [.tup [.tup [.int 0, .int 1], .tup [.int 3, .int 1]], .tup [.tup [.int 5, .int 1], .tup [.int 4, .int 1]], .tup [.tup [.int 1, .int 1], .tup [.int 4, .int 1]]], .no, .no, .no])) : W ((bindT ([.val (.tup [.tup [.int 0, .int 0], .tup [.int 4, .int 4], .tup [.int 10, .int 4]]), .val (.tup [.int 5, .int 1]), .val (.tup [.int 3, .int 9, .int 0]), .cell [.tup [.tup [.int 0, .int 1], .tup [.int 3, .int 1]], .tup [.tup [.int 5, .int 1], .tup [.int 4, .int 1]]], .no, .no, .no]) (.nm 4) (.int 0)).bind fun e => exSs G Φ b_hours_of_1 e) Q := by
  unfold b_hours_of_1
  wtm_at "go"
def fx2h_S (i : Nat) : Env := match i with
  | 0 => [.val (.tup [.tup [.int 0, .int 0], .tup [.int 4, .int 4], .tup [.int 10, .int 4]]), .val (.tup [.int 0, .int 1]), .val (.tup [.int 3, .int 9, .int 0]), .cell [], .no, .no, .no]
  | 1 => [.val (.tup [.tup [.int 0, .int 0], .tup [.int 4, .int 4], .tup [.int 10, .int 4]]), .val (.tup [.int 0, .int 1]), .val (.tup [.int 3, .int 9, .int 0]), .cell [.tup [.tup [.int 0, .int 1], .tup [.int 3, .int 1]]], .no, .no, .no]
  | 2 => [.val (.tup [.tup [.int 0, .int 0], .tup [.int 4, .int 4], .tup [.int 10, .int 4]]), .val (.tup [.int 5, .int 1]), .val (.tup [.int 3, .int 9, .int 0]), .cell [.tup [.tup [.int 0, .int 1], .tup [.int 3, .int 1]], .tup [.tup [.int 5, .int 1], .tup [.int 4, .int 1]]], .no, .no, .no]
  | _ => [.val (.tup [.tup [.int 0, .int 0], .tup [.int 4, .int 4], .tup [.int 10, .int 4]]), .val (.tup [.int 1, .int 1]), .val (.tup [.int 3, .int 9, .int 0]), .cell [.tup [.tup [.int 0, .int 1], .tup [.int 3, .int 1]], .tup [.tup [.int 5, .int 1], .tup [.int 4, .int 1]], .tup [.tup [.int 1, .int 1], .tup [.int 4, .int 1]]], .no, .no, .no]
theorem fx2h_w {Φ : Calls} (h0 : ∀ Q : Out × Env → Prop, Q (.next, [.val (.tup [.tup [.int 0, .int 0], .tup [.int 4, .int 4], .tup [.int 10, .int 4]]), .val (.tup [.int 0, .int 1]), .val (.tup [.int 3, .int 9, .int 0]), .cell [.tup [.tup [.int 0, .int 1], .tup [.int 3, .int 1]]], .no, .no, .no]) → W ((bindT ([.val (.tup [.tup [.int 0, .int 0], .tup [.int 4, .int 4], .tup [.int 10, .int 4]]), .val (.tup [.int 0, .int 1]), .val (.tup [.int 3, .int 9, .int 0]), .cell [], .no, .no, .no]) (.nm 4) (.int 3)).bind fun e => exSs G Φ b_hours_of_1 e) Q) (h1 : ∀ Q : Out × Env → Prop, Q (.next, [.val (.tup [.tup [.int 0, .int 0], .tup [.int 4, .int 4], .tup [.int 10, .int 4]]), .val (.tup [.int 5, .int 1]), .val (.tup [.int 3, .int 9, .int 0]), .cell [.tup [.tup [.int 0, .int 1], .tup [.int 3, .int 1]], .tup [.tup [.int 5, .int 1], .tup [.int 4, .int 1]]], .no, .no, .no]) → W ((bindT ([.val (.tup [.tup [.int 0, .int 0], .tup [.int 4, .int 4], .tup [.int 10, .int 4]]), .val (.tup [.int 0, .int 1]), .val (.tup [.int 3, .int 9, .int 0]), .cell [.tup [.tup [.int 0, .int 1], .tup [.int 3, .int 1]]], .no, .no, .no]) (.nm 4) (.int 9)).bind fun e => exSs G Φ b_hours_of_1 e) Q) (h2 : ∀ Q : Out × Env → Prop, Q (.next, [.val (.tup [.tup [.int 0, .int 0], .tup [.int 4, .int 4], .tup [.int 10, .int 4]]), .val (.tup [.int 1, .int 1]), .val (.tup [.int 3, .int 9, .int 0]), .cell [.tup [.tup [.int 0, .int 1], .tup [.int 3, .int 1]], .tup [.tup [.int 5, .int 1], .tup [.int 4, .int 1]], .tup [.tup [.int 1, .int 1], .tup [.int 4, .int 1]]], .no, .no, .no]) → W ((bindT ([.val (.tup [.tup [.int 0, .int 0], .tup [.int 4, .int 4], .tup [.int 10, .int 4]]), .val (.tup [.int 5, .int 1]), .val (.tup [.int 3, .int 9, .int 0]), .cell [.tup [.tup [.int 0, .int 1], .tup [.int 3, .int 1]], .tup [.tup [.int 5, .int 1], .tup [.int 4, .int 1]]], .no, .no, .no]) (.nm 4) (.int 0)).bind fun e => exSs G Φ b_hours_of_1 e) Q) {Q : Out × Env → Prop} (q : Q (.ret (.ref 3), [.val (.tup [.tup [.int 0, .int 0], .tup [.int 4, .int 4], .tup [.int 10, .int 4]]), .val (.tup [.int 1, .int 1]), .val (.tup [.int 3, .int 9, .int 0]), .cell [.tup [.tup [.int 0, .int 1], .tup [.int 3, .int 1]], .tup [.tup [.int 5, .int 1], .tup [.int 4, .int 1]], .tup [.tup [.int 1, .int 1], .tup [.int 4, .int 1]]], .no, .no, .no])) : W (exSs G Φ f_hours_of.body [.val (.tup [.tup [.int 0, .int 0], .tup [.int 4, .int 4], .tup [.int 10, .int 4]]), .val (.tup [.int 0, .int 1]), .val (.tup [.int 3, .int 9, .int 0]), .no, .no, .no, .no]) Q := by
  unfold f_hours_of
  dsimp only
  wtm_at "go"
  show W (forE _ _ _ _ (([3, 9, 0] : List Int).map D.int) _) _
  refine W_fM (fun i e => e = fx2h_S i) rfl ?_ ?_
  · intro i a e hi ha he
    subst he
    match i, hi, ha with
    | 0, _, ha => cases ha; exact h0 _ rfl
    | 1, _, ha => cases ha; exact h1 _ rfl
    | 2, _, ha => cases ha; exact h2 _ rfl
  · intro e he
    subst he
    refine KK.nx (by assumption) ?_
    change W (exSs G _ _ [.val (.tup [.tup [.int 0, .int 0], .tup [.int 4, .int 4], .tup [.int 10, .int 4]]), .val (.tup [.int 1, .int 1]), .val (.tup [.int 3, .int 9, .int 0]), .cell [.tup [.tup [.int 0, .int 1], .tup [.int 3, .int 1]], .tup [.tup [.int 5, .int 1], .tup [.int 4, .int 1]], .tup [.tup [.int 1, .int 1], .tup [.int 4, .int 1]]], .no, .no, .no]) _
    wtm_at "go"
    try exact q
theorem fx2h : callF G P 98 6 [.val (.tup [.tup [.int 0, .int 0], .tup [.int 4, .int 4], .tup [.int 10, .int 4]]), .val (.tup [.int 0, .int 1]), .val (.tup [.int 3, .int 9, .int 0])] = some (.own [.tup [.tup [.int 0, .int 1], .tup [.int 3, .int 1]], .tup [.tup [.int 5, .int 1], .tup [.int 4, .int 1]], .tup [.tup [.int 1, .int 1], .tup [.int 4, .int 1]]], [.val (.tup [.tup [.int 0, .int 0], .tup [.int 4, .int 4], .tup [.int 10, .int 4]]), .no, .val (.tup [.int 3, .int 9, .int 0])]) := by
  show callF G P (97 + 1) 6 _ = _
  rw [callF_succ (fn := f_hours_of) rfl]; refine W.get (run_ok rfl rfl ?_)
  exact fx2h_w (fun Q q => fx2h_s0 fx2h_00 fx2h_01 fx2h_02 fx2h_03 q) (fun Q q => fx2h_s1 fx2h_10 fx2h_11 fx2h_12 fx2h_13 q) (fun Q q => fx2h_s2 fx2h_20 fx2h_21 fx2h_22 fx2h_23 q) ⟨_, rfl, rfl⟩
theorem fx2_c {Φ : Calls} (f : Φ 6 [.val (.tup [.tup [.int 0, .int 0], .tup [.int 4, .int 4], .tup [.int 10, .int 4]]), .val (.tup [.int 0, .int 1]), .val (.tup [.int 3, .int 9, .int 0])] = some (.own [.tup [.tup [.int 0, .int 1], .tup [.int 3, .int 1]], .tup [.tup [.int 5, .int 1], .tup [.int 4, .int 1]], .tup [.tup [.int 1, .int 1], .tup [.int 4, .int 1]]], [.val (.tup [.tup [.int 0, .int 0], .tup [.int 4, .int 4], .tup [.int 10, .int 4]]), .no, .val (.tup [.int 3, .int 9, .int 0])])) {Q : Out × Env → Prop} (q : Q (.ret (.val (.tup [.tup [.int 3, .int 1], .tup [.int 4, .int 1], .tup [.int 4, .int 1]])), [.val (.tup [.tup [.int 0, .int 0], .tup [.int 4, .int 4], .tup [.int 10, .int 4]]), .val (.tup [.int 0, .int 1]), .val (.tup [.int 3, .int 9, .int 0]), .no, .no])) : W (exSs G Φ f_given_in.body [.val (.tup [.tup [.int 0, .int 0], .tup [.int 4, .int 4], .tup [.int 10, .int 4]]), .val (.tup [.int 0, .int 1]), .val (.tup [.int 3, .int 9, .int 0]), .no, .no]) Q := by
  unfold f_given_in
  dsimp only
  wtm_at "go"
  show W (cmpR _ _ _ _ _ (([(.tup [.int 0, .int 1], .tup [.int 3, .int 1]), (.tup [.int 5, .int 1], .tup [.int 4, .int 1]), (.tup [.int 1, .int 1], .tup [.int 4, .int 1])] : List (D × D)).map fun q => D.tup [q.1, q.2]) _) _
  refine W_cM (fun q : D × D => q.2) ?_ ?_
  · rintro ⟨a, b⟩ _
    wtm_at "go"
  · wtm_at "go"
    try exact q
theorem fx2 : callF G P 99 8 [.val (.tup [.tup [.int 0, .int 0], .tup [.int 4, .int 4], .tup [.int 10, .int 4]]), .val (.tup [.int 0, .int 1]), .val (.tup [.int 3, .int 9, .int 0])] = some (.val (.tup [.tup [.int 3, .int 1], .tup [.int 4, .int 1], .tup [.int 4, .int 1]]), [.val (.tup [.tup [.int 0, .int 0], .tup [.int 4, .int 4], .tup [.int 10, .int 4]]), .val (.tup [.int 0, .int 1]), .val (.tup [.int 3, .int 9, .int 0])]) := by
  show callF G P (98 + 1) 8 _ = _
  rw [callF_succ (fn := f_given_in) rfl]; refine W.get (run_ok rfl rfl ?_)
  exact fx2_c fx2h ⟨_, rfl, rfl⟩
theorem fx3 : callF G P 99 15 [.val (.tup [(.tup [(.int 3), (.int 1)]), (.tup [(.int 4), (.int 1)]), (.tup [(.int 4), (.int 1)])]), .val (.tup [(.tup [(.int 3), (.int 1)]), (.tup [(.int 4), (.int 1)]), (.tup [(.int 4), (.int 1)])])] = some (.val (.bl true), [.val (.tup [(.tup [(.int 3), (.int 1)]), (.tup [(.int 4), (.int 1)]), (.tup [(.int 4), (.int 1)])]), .val (.tup [(.tup [(.int 3), (.int 1)]), (.tup [(.int 4), (.int 1)]), (.tup [(.int 4), (.int 1)])])]) := rfl
theorem fx4 : callF G P 99 3 [.val (.tup [(.int 1), (.int 2)]), .val (.tup [(.int 2), (.int 1)])] = some (.val (.tup [(.int 1), (.int 1)]), [.val (.tup [(.int 1), (.int 2)]), .val (.tup [(.int 2), (.int 1)])]) := rfl
theorem fx5 : callF G P 99 2 [.val (.tup [(.int 5), (.int 1)]), .val (.tup [(.int 1), (.int 1)])] = some (.val (.tup [(.int 4), (.int 1)]), [.val (.tup [(.int 5), (.int 1)]), .val (.tup [(.int 1), (.int 1)])]) := rfl
theorem fx6 : callF G P 99 15 [.val (.tup [(.int 4), (.int 1)]), .val (.tup [(.int 4), (.int 1)])] = some (.val (.bl true), [.val (.tup [(.int 4), (.int 1)]), .val (.tup [(.int 4), (.int 1)])]) := rfl
theorem fx7 : callF G P 99 10 [.val (.tup [(.int 0), (.int 9), (.int 0), (.int 0)]), .val (.int 2)] = some (.val (.int 4), [.val (.tup [(.int 0), (.int 9), (.int 0), (.int 0)]), .val (.int 2)]) := rfl
theorem fx8 : callF G P 99 15 [.val (.int 4), .val (.int 4)] = some (.val (.bl true), [.val (.int 4), .val (.int 4)]) := rfl
theorem fx9 : callF G P 99 11 [.val (.tup [(.int 0), (.int 9), (.int 0), (.int 0)]), .val (.int 4)] = some (.val (.int 2), [.val (.tup [(.int 0), (.int 9), (.int 0), (.int 0)]), .val (.int 4)]) := rfl
theorem fx10 : callF G P 99 15 [.val (.int 2), .val (.int 2)] = some (.val (.bl true), [.val (.int 2), .val (.int 2)]) := rfl
theorem fx11ch_00 : callF G P 96 1 [.val (.tup [.int 0, .int 1]), .val (.tup [.int 3, .int 1])] = some (.val (.tup [.int 3, .int 1]), [.val (.tup [.int 0, .int 1]), .val (.tup [.int 3, .int 1])]) := rfl
theorem fx11ch_01 : callF G P 96 5 [.val (.tup [.tup [.int 0, .int 0], .tup [.int 4, .int 4], .tup [.int 10, .int 4]]), .val (.tup [.int 3, .int 1])] = some (.val (.tup [.int 3, .int 1]), [.val (.tup [.tup [.int 0, .int 0], .tup [.int 4, .int 4], .tup [.int 10, .int 4]]), .val (.tup [.int 3, .int 1])]) := rfl
theorem fx11ch_02 : callF G P 96 4 [.val (.tup [.int 3, .int 1]), .val (.tup [.int 3, .int 1])] = some (.val (.bl false), [.val (.tup [.int 3, .int 1]), .val (.tup [.int 3, .int 1])]) := rfl
theorem fx11ch_03 : callF G P 96 2 [.val (.tup [.int 3, .int 1]), .val (.tup [.int 3, .int 1])] = some (.val (.tup [.int 0, .int 1]), [.val (.tup [.int 3, .int 1]), .val (.tup [.int 3, .int 1])]) := rfl
theorem fx11ch_10 : callF G P 96 1 [.val (.tup [.int 0, .int 1]), .val (.tup [.int 9, .int 1])] = some (.val (.tup [.int 9, .int 1]), [.val (.tup [.int 0, .int 1]), .val (.tup [.int 9, .int 1])]) := rfl
theorem fx11ch_11 : callF G P 96 5 [.val (.tup [.tup [.int 0, .int 0], .tup [.int 4, .int 4], .tup [.int 10, .int 4]]), .val (.tup [.int 9, .int 1])] = some (.val (.tup [.int 4, .int 1]), [.val (.tup [.tup [.int 0, .int 0], .tup [.int 4, .int 4], .tup [.int 10, .int 4]]), .val (.tup [.int 9, .int 1])]) := rfl
theorem fx11ch_12 : callF G P 96 4 [.val (.tup [.int 9, .int 1]), .val (.tup [.int 4, .int 1])] = some (.val (.bl false), [.val (.tup [.int 9, .int 1]), .val (.tup [.int 4, .int 1])]) := rfl
theorem fx11ch_13 : callF G P 96 2 [.val (.tup [.int 9, .int 1]), .val (.tup [.int 4, .int 1])] = some (.val (.tup [.int 5, .int 1]), [.val (.tup [.int 9, .int 1]), .val (.tup [.int 4, .int 1])]) := rfl
theorem fx11ch_20 : callF G P 96 1 [.val (.tup [.int 5, .int 1]), .val (.tup [.int 0, .int 1])] = some (.val (.tup [.int 5, .int 1]), [.val (.tup [.int 5, .int 1]), .val (.tup [.int 0, .int 1])]) := rfl
theorem fx11ch_21 : callF G P 96 5 [.val (.tup [.tup [.int 0, .int 0], .tup [.int 4, .int 4], .tup [.int 10, .int 4]]), .val (.tup [.int 5, .int 1])] = some (.val (.tup [.int 4, .int 1]), [.val (.tup [.tup [.int 0, .int 0], .tup [.int 4, .int 4], .tup [.int 10, .int 4]]), .val (.tup [.int 5, .int 1])]) := rfl
theorem fx11ch_22 : callF G P 96 4 [.val (.tup [.int 5, .int 1]), .val (.tup [.int 4, .int 1])] = some (.val (.bl false), [.val (.tup [.int 5, .int 1]), .val (.tup [.int 4, .int 1])]) := rfl
theorem fx11ch_23 : callF G P 96 2 [.val (.tup [.int 5, .int 1]), .val (.tup [.int 4, .int 1])] = some (.val (.tup [.int 1, .int 1]), [.val (.tup [.int 5, .int 1]), .val (.tup [.int 4, .int 1])]) := rfl
theorem fx11ch_s0 {Φ : Calls} (h0 : Φ 1 [.val (.tup [.int 0, .int 1]), .val (.tup [.int 3, .int 1])] = some (.val (.tup [.int 3, .int 1]), [.val (.tup [.int 0, .int 1]), .val (.tup [.int 3, .int 1])])) (h1 : Φ 5 [.val (.tup [.tup [.int 0, .int 0], .tup [.int 4, .int 4], .tup [.int 10, .int 4]]), .val (.tup [.int 3, .int 1])] = some (.val (.tup [.int 3, .int 1]), [.val (.tup [.tup [.int 0, .int 0], .tup [.int 4, .int 4], .tup [.int 10, .int 4]]), .val (.tup [.int 3, .int 1])])) (h2 : Φ 4 [.val (.tup [.int 3, .int 1]), .val (.tup [.int 3, .int 1])] = some (.val (.bl false), [.val (.tup [.int 3, .int 1]), .val (.tup [.int 3, .int 1])])) (h3 : Φ 2 [.val (.tup [.int 3, .int 1]), .val (.tup [.int 3, .int 1])] = some (.val (.tup [.int 0, .int 1]), [.val (.tup [.int 3, .int 1]), .val (.tup [.int 3, .int 1])])) {Q : Out × Env → Prop} (q : Q (.next, [.val (.tup [.tup [.int 0, .int 0], .tup [.int 4, .int 4], .tup [.int 10, .int 4]]), .val (.tup [.int 0, .int 1]), .val (.tup [.int 3, .int 9, .int 0]), .cell [.tup [.tup [.int 0, .int 1], .tup [.int 3, .int 1]]], .no, .no, .no])) : W ((bindT ([.val (.tup [.tup [.int 0, .int 0], .tup [.int 4, .int 4], .tup [.int 10, .int 4]]), .val (.tup [.int 0, .int 1]), .val (.tup [.int 3, .int 9, .int 0]), .cell [], .no, .no, .no]) (.nm 4) (.int 3)).bind fun e => exSs G Φ b_hours_of_1 e) Q := by
  unfold b_hours_of_1
  wtm_at "go"
theorem fx11ch_s1 {Φ : Calls} (h0 : Φ 1 [.val (.tup [.int 0, .int 1]), .val (.tup [.int 9, .int 1])] = some (.val (.tup [.int 9, .int 1]), [.val (.tup [.int 0, .int 1]), .val (.tup [.int 9, .int 1])])) (h1 : Φ 5 [.val (.tup [.tup [.int 0, .int 0], .tup [.int 4, .int 4], .tup [.int 10, .int 4]]), .val (.tup [.int 9, .int 1])] = some (.val (.tup [.int 4, .int 1]), [.val (.tup [.tup [.int 0, .int 0], .tup [.int 4, .int 4], .tup [.int 10, .int 4]]), .val (.tup [.int 9, .int 1])])) (h2 : Φ 4 [.val (.tup [.int 9, .int 1]), .val (.tup [.int 4, .int 1])] = some (.val (.bl false), [.val (.tup [.int 9, .int 1]), .val (.tup [.int 4, .int 1])])) (h3 : Φ 2 [.val (.tup [.int 9, .int 1]), .val (.tup [.int 4, .int 1])] = some (.val (.tup [.int 5, .int 1]), [.val (.tup [.int 9, .int 1]), .val (.tup [.int 4, .int 1])])) {Q : Out × Env → Prop} (q : Q (.next, [.val (.tup [.tup [.int 0, .int 0], .tup [.int 4, .int 4], .tup [.int 10, .int 4]]), .val (.tup [.int 5, .int 1]), .val (.tup [.int 3, .int 9, .int 0]), .cell [.tup [.tup [.int 0, .int 1], .tup [.int 3, .int 1]], .tup [.tup [.int 5, .int 1], .tup [.int 4, .int 1]]], .no, .no, .no])) : W ((bindT ([.val (.tup [.tup [.int 0, .int 0], .tup [.int 4, .int 4], .tup [.int 10, .int 4]]), .val (.tup [.int 0, .int 1]), .val (.tup [.int 3, .int 9, .int 0]), .cell [.tup [.tup [.int 0, .int 1], .tup [.int 3, .int 1]]], .no, .no, .no]) (.nm 4) (.int 9)).bind fun e => exSs G Φ b_hours_of_1 e) Q := by
  unfold b_hours_of_1
  wtm_at "go"
theorem fx11ch_s2 {Φ : Calls} (h0 : Φ 1 [.val (.tup [.int 5, .int 1]), .val (.tup [.int 0, .int 1])] = some (.val (.tup [.int 5, .int 1]), [.val (.tup [.int 5, .int 1]), .val (.tup [.int 0, .int 1])])) (h1 : Φ 5 [.val (.tup [.tup [.int 0, .int 0], .tup [.int 4, .int 4], .tup [.int 10, .int 4]]), .val (.tup [.int 5, .int 1])] = some (.val (.tup [.int 4, .int 1]), [.val (.tup [.tup [.int 0, .int 0], .tup [.int 4, .int 4], .tup [.int 10, .int 4]]), .val (.tup [.int 5, .int 1])])) (h2 : Φ 4 [.val (.tup [.int 5, .int 1]), .val (.tup [.int 4, .int 1])] = some (.val (.bl false), [.val (.tup [.int 5, .int 1]), .val (.tup [.int 4, .int 1])])) (h3 : Φ 2 [.val (.tup [.int 5, .int 1]), .val (.tup [.int 4, .int 1])] = some (.val (.tup [.int 1, .int 1]), [.val (.tup [.int 5, .int 1]), .val (.tup [.int 4, .int 1])])) {Q : Out × Env → Prop} (q : Q (.next, [.val (.tup [.tup [.int 0, .int 0], .tup [.int 4, .int 4], .tup [.int 10, .int 4]]), .val (.tup [.int 1, .int 1]), .val (.tup [.int 3, .int 9, .int 0]), .cell [.tup [.tup [.int 0, .int 1], .tup [.int 3, .int 1]], .tup [.tup [.int 5, .int 1], .tup [.int 4, .int 1]], .tup [.tup [.int 1, .int 1], .tup [.int 4, .int 1]]], .no, .no, .no])) : W ((bindT ([.val (.tup [.tup [.int 0, .int 0], .tup [.int 4, .int 4], .tup [.int 10, .int 4]]), .val (.tup [.int 5, .int 1]), .val (.tup [.int 3, .int 9, .int 0]), .cell [.tup [.tup [.int 0, .int 1], .tup [.int 3, .int 1]], .tup [.tup [.int 5, .int 1], .tup [.int 4, .int 1]]], .no, .no, .no]) (.nm 4) (.int 0)).bind fun e => exSs G Φ b_hours_of_1 e) Q := by
  unfold b_hours_of_1
  wtm_at "go"
def fx11ch_S (i : Nat) : Env := match i with
  | 0 => [.val (.tup [.tup [.int 0, .int 0], .tup [.int 4, .int 4], .tup [.int 10, .int 4]]), .val (.tup [.int 0, .int 1]), .val (.tup [.int 3, .int 9, .int 0]), .cell [], .no, .no, .no]
  | 1 => [.val (.tup [.tup [.int 0, .int 0], .tup [.int 4, .int 4], .tup [.int 10, .int 4]]), .val (.tup [.int 0, .int 1]), .val (.tup [.int 3, .int 9, .int 0]), .cell [.tup [.tup [.int 0, .int 1], .tup [.int 3, .int 1]]], .no, .no, .no]
  | 2 => [.val (.tup [.tup [.int 0, .int 0], .tup [.int 4, .int 4], .tup [.int 10, .int 4]]), .val (.tup [.int 5, .int 1]), .val (.tup [.int 3, .int 9, .int 0]), .cell [.tup [.tup [.int 0, .int 1], .tup [.int 3, .int 1]], .tup [.tup [.int 5, .int 1], .tup [.int 4, .int 1]]], .no, .no, .no]
  | _ => [.val (.tup [.tup [.int 0, .int 0], .tup [.int 4, .int 4], .tup [.int 10, .int 4]]), .val (.tup [.int 1, .int 1]), .val (.tup [.int 3, .int 9, .int 0]), .cell [.tup [.tup [.int 0, .int 1], .tup [.int 3, .int 1]], .tup [.tup [.int 5, .int 1], .tup [.int 4, .int 1]], .tup [.tup [.int 1, .int 1], .tup [.int 4, .int 1]]], .no, .no, .no]
theorem fx11ch_w {Φ : Calls} (h0 : ∀ Q : Out × Env → Prop, Q (.next, [.val (.tup [.tup [.int 0, .int 0], .tup [.int 4, .int 4], .tup [.int 10, .int 4]]), .val (.tup [.int 0, .int 1]), .val (.tup [.int 3, .int 9, .int 0]), .cell [.tup [.tup [.int 0, .int 1], .tup [.int 3, .int 1]]], .no, .no, .no]) → W ((bindT ([.val (.tup [.tup [.int 0, .int 0], .tup [.int 4, .int 4], .tup [.int 10, .int 4]]), .val (.tup [.int 0, .int 1]), .val (.tup [.int 3, .int 9, .int 0]), .cell [], .no, .no, .no]) (.nm 4) (.int 3)).bind fun e => exSs G Φ b_hours_of_1 e) Q) (h1 : ∀ Q : Out × Env → Prop, Q (.next, [.val (.tup [.tup [.int 0, .int 0], .tup [.int 4, .int 4], .tup [.int 10, .int 4]]), .val (.tup [.int 5, .int 1]), .val (.tup [.int 3, .int 9, .int 0]), .cell [.tup [.tup [.int 0, .int 1], .tup [.int 3, .int 1]], .tup [.tup [.int 5, .int 1], .tup [.int 4, .int 1]]], .no, .no, .no]) → W ((bindT ([.val (.tup [.tup [.int 0, .int 0], .tup [.int 4, .int 4], .tup [.int 10, .int 4]]), .val (.tup [.int 0, .int 1]), .val (.tup [.int 3, .int 9, .int 0]), .cell [.tup [.tup [.int 0, .int 1], .tup [.int 3, .int 1]]], .no, .no, .no]) (.nm 4) (.int 9)).bind fun e => exSs G Φ b_hours_of_1 e) Q) (h2 : ∀ Q : Out × Env → Prop, Q (.next, [.val (.tup [.tup [.int 0, .int 0], .tup [.int 4, .int 4], .tup [.int 10, .int 4]]), .val (.tup [.int 1, .int 1]), .val (.tup [.int 3, .int 9, .int 0]), .cell [.tup [.tup [.int 0, .int 1], .tup [.int 3, .int 1]], .tup [.tup [.int 5, .int 1], .tup [.int 4, .int 1]], .tup [.tup [.int 1, .int 1], .tup [.int 4, .int 1]]], .no, .no, .no]) → W ((bindT ([.val (.tup [.tup [.int 0, .int 0], .tup [.int 4, .int 4], .tup [.int 10, .int 4]]), .val (.tup [.int 5, .int 1]), .val (.tup [.int 3, .int 9, .int 0]), .cell [.tup [.tup [.int 0, .int 1], .tup [.int 3, .int 1]], .tup [.tup [.int 5, .int 1], .tup [.int 4, .int 1]]], .no, .no, .no]) (.nm 4) (.int 0)).bind fun e => exSs G Φ b_hours_of_1 e) Q) {Q : Out × Env → Prop} (q : Q (.ret (.ref 3), [.val (.tup [.tup [.int 0, .int 0], .tup [.int 4, .int 4], .tup [.int 10, .int 4]]), .val (.tup [.int 1, .int 1]), .val (.tup [.int 3, .int 9, .int 0]), .cell [.tup [.tup [.int 0, .int 1], .tup [.int 3, .int 1]], .tup [.tup [.int 5, .int 1], .tup [.int 4, .int 1]], .tup [.tup [.int 1, .int 1], .tup [.int 4, .int 1]]], .no, .no, .no])) : W (exSs G Φ f_hours_of.body [.val (.tup [.tup [.int 0, .int 0], .tup [.int 4, .int 4], .tup [.int 10, .int 4]]), .val (.tup [.int 0, .int 1]), .val (.tup [.int 3, .int 9, .int 0]), .no, .no, .no, .no]) Q := by
  unfold f_hours_of
  dsimp only
  wtm_at "go"
  show W (forE _ _ _ _ (([3, 9, 0] : List Int).map D.int) _) _
  refine W_fM (fun i e => e = fx11ch_S i) rfl ?_ ?_
  · intro i a e hi ha he
    subst he
    match i, hi, ha with
    | 0, _, ha => cases ha; exact h0 _ rfl
    | 1, _, ha => cases ha; exact h1 _ rfl
    | 2, _, ha => cases ha; exact h2 _ rfl
  · intro e he
    subst he
    refine KK.nx (by assumption) ?_
    change W (exSs G _ _ [.val (.tup [.tup [.int 0, .int 0], .tup [.int 4, .int 4], .tup [.int 10, .int 4]]), .val (.tup [.int 1, .int 1]), .val (.tup [.int 3, .int 9, .int 0]), .cell [.tup [.tup [.int 0, .int 1], .tup [.int 3, .int 1]], .tup [.tup [.int 5, .int 1], .tup [.int 4, .int 1]], .tup [.tup [.int 1, .int 1], .tup [.int 4, .int 1]]], .no, .no, .no]) _
    wtm_at "go"
    try exact q
theorem fx11ch : callF G P 97 6 [.val (.tup [.tup [.int 0, .int 0], .tup [.int 4, .int 4], .tup [.int 10, .int 4]]), .val (.tup [.int 0, .int 1]), .val (.tup [.int 3, .int 9, .int 0])] = some (.own [.tup [.tup [.int 0, .int 1], .tup [.int 3, .int 1]], .tup [.tup [.int 5, .int 1], .tup [.int 4, .int 1]], .tup [.tup [.int 1, .int 1], .tup [.int 4, .int 1]]], [.val (.tup [.tup [.int 0, .int 0], .tup [.int 4, .int 4], .tup [.int 10, .int 4]]), .no, .val (.tup [.int 3, .int 9, .int 0])]) := by
  show callF G P (96 + 1) 6 _ = _
  rw [callF_succ (fn := f_hours_of) rfl]; refine W.get (run_ok rfl rfl ?_)
  exact fx11ch_w (fun Q q => fx11ch_s0 fx11ch_00 fx11ch_01 fx11ch_02 fx11ch_03 q) (fun Q q => fx11ch_s1 fx11ch_10 fx11ch_11 fx11ch_12 fx11ch_13 q) (fun Q q => fx11ch_s2 fx11ch_20 fx11ch_21 fx11ch_22 fx11ch_23 q) ⟨_, rfl, rfl⟩
theorem fx11c_c {Φ : Calls} (f : Φ 6 [.val (.tup [.tup [.int 0, .int 0], .tup [.int 4, .int 4], .tup [.int 10, .int 4]]), .val (.tup [.int 0, .int 1]), .val (.tup [.int 3, .int 9, .int 0])] = some (.own [.tup [.tup [.int 0, .int 1], .tup [.int 3, .int 1]], .tup [.tup [.int 5, .int 1], .tup [.int 4, .int 1]], .tup [.tup [.int 1, .int 1], .tup [.int 4, .int 1]]], [.val (.tup [.tup [.int 0, .int 0], .tup [.int 4, .int 4], .tup [.int 10, .int 4]]), .no, .val (.tup [.int 3, .int 9, .int 0])])) {Q : Out × Env → Prop} (q : Q (.ret (.val (.tup [.tup [.int 0, .int 1], .tup [.int 5, .int 1], .tup [.int 1, .int 1]])), [.val (.tup [.tup [.int 0, .int 0], .tup [.int 4, .int 4], .tup [.int 10, .int 4]]), .val (.tup [.int 0, .int 1]), .val (.tup [.int 3, .int 9, .int 0]), .no, .no])) : W (exSs G Φ f_held_after.body [.val (.tup [.tup [.int 0, .int 0], .tup [.int 4, .int 4], .tup [.int 10, .int 4]]), .val (.tup [.int 0, .int 1]), .val (.tup [.int 3, .int 9, .int 0]), .no, .no]) Q := by
  unfold f_held_after
  dsimp only
  wtm_at "go"
  show W (cmpR _ _ _ _ _ (([(.tup [.int 0, .int 1], .tup [.int 3, .int 1]), (.tup [.int 5, .int 1], .tup [.int 4, .int 1]), (.tup [.int 1, .int 1], .tup [.int 4, .int 1])] : List (D × D)).map fun q => D.tup [q.1, q.2]) _) _
  refine W_cM (fun q : D × D => q.1) ?_ ?_
  · rintro ⟨a, b⟩ _
    wtm_at "go"
  · wtm_at "go"
    try exact q
theorem fx11c : callF G P 98 7 [.val (.tup [.tup [.int 0, .int 0], .tup [.int 4, .int 4], .tup [.int 10, .int 4]]), .val (.tup [.int 0, .int 1]), .val (.tup [.int 3, .int 9, .int 0])] = some (.val (.tup [.tup [.int 0, .int 1], .tup [.int 5, .int 1], .tup [.int 1, .int 1]]), [.val (.tup [.tup [.int 0, .int 0], .tup [.int 4, .int 4], .tup [.int 10, .int 4]]), .val (.tup [.int 0, .int 1]), .val (.tup [.int 3, .int 9, .int 0])]) := by
  show callF G P (97 + 1) 7 _ = _
  rw [callF_succ (fn := f_held_after) rfl]; refine W.get (run_ok rfl rfl ?_)
  exact fx11c_c fx11ch ⟨_, rfl, rfl⟩
theorem fx11_l0 : callF G P 98 4 [.val (.tup [.int 4, .int 1]), .val (.tup [.int 0, .int 1])] = some (.val (.bl false), [.val (.tup [.int 4, .int 1]), .val (.tup [.int 0, .int 1])]) := rfl
theorem fx11_l1 : callF G P 98 4 [.val (.tup [.int 4, .int 1]), .val (.tup [.int 5, .int 1])] = some (.val (.bl true), [.val (.tup [.int 4, .int 1]), .val (.tup [.int 5, .int 1])]) := rfl
theorem fx11_w {Φ : Calls} (f : Φ 7 [.val (.tup [.tup [.int 0, .int 0], .tup [.int 4, .int 4], .tup [.int 10, .int 4]]), .val (.tup [.int 0, .int 1]), .val (.tup [.int 3, .int 9, .int 0])] = some (.val (.tup [.tup [.int 0, .int 1], .tup [.int 5, .int 1], .tup [.int 1, .int 1]]), [.val (.tup [.tup [.int 0, .int 0], .tup [.int 4, .int 4], .tup [.int 10, .int 4]]), .val (.tup [.int 0, .int 1]), .val (.tup [.int 3, .int 9, .int 0])])) (h0 : Φ 4 [.val (.tup [.int 4, .int 1]), .val (.tup [.int 0, .int 1])] = some (.val (.bl false), [.val (.tup [.int 4, .int 1]), .val (.tup [.int 0, .int 1])])) (h1 : Φ 4 [.val (.tup [.int 4, .int 1]), .val (.tup [.int 5, .int 1])] = some (.val (.bl true), [.val (.tup [.int 4, .int 1]), .val (.tup [.int 5, .int 1])])) {Q : Out × Env → Prop} (q : Q (.ret (.val (.int 1)), [.val (.tup [.tup [.int 0, .int 0], .tup [.int 4, .int 4], .tup [.int 10, .int 4]]), .val (.tup [.int 0, .int 1]), .val (.tup [.int 3, .int 9, .int 0]), .val (.int 4), .val (.tup [.tup [.int 0, .int 1], .tup [.int 5, .int 1], .tup [.int 1, .int 1]]), .val (.int 1)])) : W (exSs G Φ f_fills_by.body [.val (.tup [.tup [.int 0, .int 0], .tup [.int 4, .int 4], .tup [.int 10, .int 4]]), .val (.tup [.int 0, .int 1]), .val (.tup [.int 3, .int 9, .int 0]), .val (.int 4), .no, .no]) Q := by
  unfold f_fills_by
  dsimp only
  wtm_at "go"
  show W (forE _ _ _ _ ((List.range 3).map fun k : Nat => D.int k) _) _
  refine W_fR (fun i e => e = [.val (.tup [.tup [.int 0, .int 0], .tup [.int 4, .int 4], .tup [.int 10, .int 4]]), .val (.tup [.int 0, .int 1]), .val (.tup [.int 3, .int 9, .int 0]), .val (.int 4), .val (.tup [.tup [.int 0, .int 1], .tup [.int 5, .int 1], .tup [.int 1, .int 1]]), .no] ∧ i ≤ 1) ⟨rfl, by decide⟩ ?_ ?_
  · rintro i e hi ⟨he, hle⟩
    subst he
    match i, hi with
    | 0, _ =>
      change W ((bindT [.val (.tup [.tup [.int 0, .int 0], .tup [.int 4, .int 4], .tup [.int 10, .int 4]]), .val (.tup [.int 0, .int 1]), .val (.tup [.int 3, .int 9, .int 0]), .val (.int 4), .val (.tup [.tup [.int 0, .int 1], .tup [.int 5, .int 1], .tup [.int 1, .int 1]]), .no] (.nm 5) (.int 0)).bind fun e => exSs G Φ b_fills_by_1 e) fun p => _
      unfold b_fills_by_1
      wtm_at "go"
    | 1, _ =>
      change W ((bindT [.val (.tup [.tup [.int 0, .int 0], .tup [.int 4, .int 4], .tup [.int 10, .int 4]]), .val (.tup [.int 0, .int 1]), .val (.tup [.int 3, .int 9, .int 0]), .val (.int 4), .val (.tup [.tup [.int 0, .int 1], .tup [.int 5, .int 1], .tup [.int 1, .int 1]]), .no] (.nm 5) (.int 1)).bind fun e => exSs G Φ b_fills_by_1 e) fun p => _
      unfold b_fills_by_1
      wtm_at "go"
    | 2, _ => exact absurd hle (by decide)
  · rintro e ⟨he, hle⟩
    subst he
    exact absurd hle (by decide)
theorem fx11 : callF G P 99 9 [.val (.tup [.tup [.int 0, .int 0], .tup [.int 4, .int 4], .tup [.int 10, .int 4]]), .val (.tup [.int 0, .int 1]), .val (.tup [.int 3, .int 9, .int 0]), .val (.int 4)] = some (.val (.int 1), [.val (.tup [.tup [.int 0, .int 0], .tup [.int 4, .int 4], .tup [.int 10, .int 4]]), .val (.tup [.int 0, .int 1]), .val (.tup [.int 3, .int 9, .int 0]), .val (.int 4)]) := by
  show callF G P (98 + 1) 9 _ = _
  rw [callF_succ (fn := f_fills_by) rfl]; refine W.get (run_ok rfl rfl ?_)
  exact fx11_w fx11c fx11_l0 fx11_l1 ⟨_, rfl, rfl⟩
theorem fx12 : callF G P 99 15 [.val (.int 1), .val (.int 1)] = some (.val (.bl true), [.val (.int 1), .val (.int 1)]) := rfl
-- 13 0 held_after|1 _law_same|2 given_in|3 _law_same|4 times_of|5 minus_of|6 _law_same|7 least_for|8 _law_same|9 even_out|10 _law_same|11 fills_by|12 _law_same
theorem tailG {Φ : Calls} (x0 : Φ 7 [.val (.tup [(.tup [(.int 0), (.int 0)]), (.tup [(.int 4), (.int 4)]), (.tup [(.int 10), (.int 4)])]), .val (.tup [(.int 0), (.int 1)]), .val (.tup [(.int 3), (.int 9), (.int 0)])] = some (.val (.tup [(.tup [(.int 0), (.int 1)]), (.tup [(.int 5), (.int 1)]), (.tup [(.int 1), (.int 1)])]), [.val (.tup [(.tup [(.int 0), (.int 0)]), (.tup [(.int 4), (.int 4)]), (.tup [(.int 10), (.int 4)])]), .val (.tup [(.int 0), (.int 1)]), .val (.tup [(.int 3), (.int 9), (.int 0)])])) (x1 : Φ 15 [.val (.tup [(.tup [(.int 0), (.int 1)]), (.tup [(.int 5), (.int 1)]), (.tup [(.int 1), (.int 1)])]), .val (.tup [(.tup [(.int 0), (.int 1)]), (.tup [(.int 5), (.int 1)]), (.tup [(.int 1), (.int 1)])])] = some (.val (.bl true), [.val (.tup [(.tup [(.int 0), (.int 1)]), (.tup [(.int 5), (.int 1)]), (.tup [(.int 1), (.int 1)])]), .val (.tup [(.tup [(.int 0), (.int 1)]), (.tup [(.int 5), (.int 1)]), (.tup [(.int 1), (.int 1)])])])) (x2 : Φ 8 [.val (.tup [(.tup [(.int 0), (.int 0)]), (.tup [(.int 4), (.int 4)]), (.tup [(.int 10), (.int 4)])]), .val (.tup [(.int 0), (.int 1)]), .val (.tup [(.int 3), (.int 9), (.int 0)])] = some (.val (.tup [(.tup [(.int 3), (.int 1)]), (.tup [(.int 4), (.int 1)]), (.tup [(.int 4), (.int 1)])]), [.val (.tup [(.tup [(.int 0), (.int 0)]), (.tup [(.int 4), (.int 4)]), (.tup [(.int 10), (.int 4)])]), .val (.tup [(.int 0), (.int 1)]), .val (.tup [(.int 3), (.int 9), (.int 0)])])) (x3 : Φ 15 [.val (.tup [(.tup [(.int 3), (.int 1)]), (.tup [(.int 4), (.int 1)]), (.tup [(.int 4), (.int 1)])]), .val (.tup [(.tup [(.int 3), (.int 1)]), (.tup [(.int 4), (.int 1)]), (.tup [(.int 4), (.int 1)])])] = some (.val (.bl true), [.val (.tup [(.tup [(.int 3), (.int 1)]), (.tup [(.int 4), (.int 1)]), (.tup [(.int 4), (.int 1)])]), .val (.tup [(.tup [(.int 3), (.int 1)]), (.tup [(.int 4), (.int 1)]), (.tup [(.int 4), (.int 1)])])])) (x4 : Φ 3 [.val (.tup [(.int 1), (.int 2)]), .val (.tup [(.int 2), (.int 1)])] = some (.val (.tup [(.int 1), (.int 1)]), [.val (.tup [(.int 1), (.int 2)]), .val (.tup [(.int 2), (.int 1)])])) (x5 : Φ 2 [.val (.tup [(.int 5), (.int 1)]), .val (.tup [(.int 1), (.int 1)])] = some (.val (.tup [(.int 4), (.int 1)]), [.val (.tup [(.int 5), (.int 1)]), .val (.tup [(.int 1), (.int 1)])])) (x6 : Φ 15 [.val (.tup [(.int 4), (.int 1)]), .val (.tup [(.int 4), (.int 1)])] = some (.val (.bl true), [.val (.tup [(.int 4), (.int 1)]), .val (.tup [(.int 4), (.int 1)])])) (x7 : Φ 10 [.val (.tup [(.int 0), (.int 9), (.int 0), (.int 0)]), .val (.int 2)] = some (.val (.int 4), [.val (.tup [(.int 0), (.int 9), (.int 0), (.int 0)]), .val (.int 2)])) (x8 : Φ 15 [.val (.int 4), .val (.int 4)] = some (.val (.bl true), [.val (.int 4), .val (.int 4)])) (x9 : Φ 11 [.val (.tup [(.int 0), (.int 9), (.int 0), (.int 0)]), .val (.int 4)] = some (.val (.int 2), [.val (.tup [(.int 0), (.int 9), (.int 0), (.int 0)]), .val (.int 4)])) (x10 : Φ 15 [.val (.int 2), .val (.int 2)] = some (.val (.bl true), [.val (.int 2), .val (.int 2)])) (x11 : Φ 9 [.val (.tup [(.tup [(.int 0), (.int 0)]), (.tup [(.int 4), (.int 4)]), (.tup [(.int 10), (.int 4)])]), .val (.tup [(.int 0), (.int 1)]), .val (.tup [(.int 3), (.int 9), (.int 0)]), .val (.int 4)] = some (.val (.int 1), [.val (.tup [(.tup [(.int 0), (.int 0)]), (.tup [(.int 4), (.int 4)]), (.tup [(.int 10), (.int 4)])]), .val (.tup [(.int 0), (.int 1)]), .val (.tup [(.int 3), (.int 9), (.int 0)]), .val (.int 4)])) (x12 : Φ 15 [.val (.int 1), .val (.int 1)] = some (.val (.bl true), [.val (.int 1), .val (.int 1)])) {sc : D} {b1 b2 b3 : B} : W (exSs G Φ t_law [.val sc, b1, b2, b3]) fun p => ∃ e, p = (.ret (.val (.bl true)), e) ∧ get e 0 = .val sc := by
  unfold t_law
  wtm_at "go"
  exact ⟨_, rfl, rfl⟩
theorem tailW {sc : D} {b1 b2 b3 : B} : W (exSs G (callF G P 99) t_law [.val sc, b1, b2, b3]) fun p => ∃ e, p = (.ret (.val (.bl true)), e) ∧ get e 0 = .val sc := tailG fx0 fx1 fx2 fx3 fx4 fx5 fx6 fx7 fx8 fx9 fx10 fx11 fx12

end K30

set_option exponentiation.threshold 100000
namespace K30
open Mini PL
local macro_rules | `(tactic| wtm_at "fl") => `(tactic| first | exact Fl_int | exact Fl_bl | exact Fl_non | exact Fl_str | assumption | (refine Fl_ite ?_ ?_ <;> wtm_at "fl") | (refine Fl_hd (fun _ _ => ?_) ?_ <;> wtm_at "fl") | (refine Fl_map (fun _ _ => ?_) ?_; (wtm_at "fl"); (first | omega | (simp only [List.length_map, List.length_range, List.length_cons, List.length_nil, List.length_append, List.length_set, List.length_reverse, List.length_take, List.length_drop, List.length_dropLast]; omega) | (simp only [*]; omega))) | (refine Fl_tupL ?_ ?_; (first | omega | (simp only [List.length_map, List.length_range, List.length_cons, List.length_nil, List.length_append, List.length_set, List.length_reverse, List.length_take, List.length_drop, List.length_dropLast]; omega) | (simp only [*]; omega)); wtm_at "fl") | exact FlL_nil | (refine FlL_cons ?_ ?_ <;> wtm_at "fl") | (refine FlL_app ?_ ?_ <;> wtm_at "fl") | (refine FlL_map (fun _ _ => ?_); wtm_at "fl"))
local macro_rules | `(tactic| wtm_at "w") => `(tactic| simp (maxSteps := 2000000) (disch := (first | omega | assumption | (refine tv_nn ?_; omega) | (refine tv_lt ?_; omega) | (refine tv_na ?_ ?_ <;> omega) | (wtm_at "fl") | (simp only [List.length_map, List.length_range, List.length_cons, List.length_nil, List.length_append, List.length_set, List.length_reverse, List.length_take, List.length_drop, List.length_dropLast]; omega))) only [true_implies, false_implies, implies_true, not_true_eq_false, ne_eq, Int.reduceEq, Int.reduceNeg, Int.reduceToNat, reduceCtorEq, Bool.not_true, Bool.not_false, Classical.not_not, Int.toNat_natCast, MS.rngList_len, Nat.zero_le, List.contains_nil, Bool.and_true, Bool.true_and, Bool.and_false, Bool.false_and, List.map_nil, List.append_nil, Nat.reduceLT, Nat.reduceLeDiff, Int.reduceLT, Int.reduceLE, Nat.reduceMul, Int.reduceMul, Int.reduceAdd, Int.reduceSub, List.length_cons, List.length_nil, Nat.reduceAdd, Nat.reduceSub, Nat.zero_add, List.getElem?_cons_zero, List.getElem?_cons_succ, List.contains_cons, Nat.reduceBEq, Bool.or_false, Bool.or_true, Bool.false_or, outB_0, outB_1, outB_2, outB_3, outB_4, outB_5, outB_6, outB_7, outB_8, eq_ss, eq_nn, X_non, X_bl, T_bl, X_int, X_str, X_var, T_var, X_gl, X_tup, X_lst, X_bin, X_neg, X_cmp, T_cmp, X_chain, T_chain, X_isN', T_isN, isNon_non, isNon_int, isNon_tup, isNon_str, isNon_bl, eqt, eqf, X_isB, T_isB, X_ite, X_idx, T_idx, X_slT, X_slF, X_slB, X_rev, X_call, T_call, X_bi, T_bi, X_pop, X_popAt, X_mt, T_mt, X_rng, T_bin, X_not, T_not, X_and, T_and, X_or, T_or, V_nil, V_cons, R_nil, R_cons, AV_nil, AV_cons, OV_nil, OV_cons, A_nil, A_cons, O_nil, O_cons, S_asg, S_asgT, S_par, S_setI, S_aug, S_app, S_revI, S_expr, S_ret, S_retN, S_ite, S_for, S_while, S_brk, S_pass, S_kill, W_some, W_none, W_bind, W_map, W_ite, get0, getS, List.set_cons_zero, List.set_cons_succ, fin_f, fin_t, tst_eq, blR_bl, pk_val, pk_own, pk_ref, fz_val, fz_own, fz_ref, bindR_val, bindR_own, bindR_ref, intD_int, tru_bl, tru_int, tru_vl, tru_tup, tru_fl, tru_non, pks, bindT, setAll, bindRs, unref, wipe, unlock, itR, callB, refs, argB, argB1, backB, back1, noRef, augC, add_i, sub_i, badd_i, badd_t, bsub_i, c_eq, c_ne, c_lt, c_le, c_gt, c_ge, c_in_t, c_in_l, c_nin_t, c_nin_l, dok_l, dok_r, dep_int, dep_bl, dep_non, dep_str, eq_ii, eq_bb, b_len_t, b_len_v, b_len_f, b_tup_t, b_tup_v, b_tup_f, b_lst_t, b_lst_v, b_lst_f, b_min2, b_max2, b_abs, b_int_i, b_int_b, b_isB, b_isI, b_isS, b_isT, b_sum_v, b_sum_t, b_any_v, b_all_v, popL, outR_val, outR_own, outR_ref, List.nodup_nil, List.nodup_cons, List.not_mem_nil, not_false_eq_true, and_self, if_true, Bool.false_eq_true, if_false, List.mem_cons, or_false, true_and, and_true, decide_eq_true_eq, beq_iff_eq, Option.map_some, Option.bind_some, List.length_map, List.nil_append, List.cons_append, List.replicate, X_compR, X_compIfR, lim_ok, lim_filter, r1', r2', mul_i, bmul_i, fdiv_i, bfdiv_i, pow_i, mulOk_l, mulOk_r, divOk_of, powOk_of, modS, add_tS, add_lS, mul_lS, iT, iV, iTi, iVi, it0, it1, it2, it3, it4, iv0, iv1, iv2, iv3, iv_p, it_p, rev_t, rev_v, mn_v, mn_t, mx_v, mx_t, isin_bf, all_t, any_t, ← List.map_reverse, eqD_s, dok_s, iv2_i, iv3_i, max_cons, min_cons, idx_last, idx_lastT, setC_last, popI_eq, popC_ok, beq_self_eq_true, bne_self_eq_false, Int.reduceBEq, Int.reduceBNe, idx_hd, dok_ints, isin_nat, isin_int, ite_ints, appL_eq, appC_ok, setL_eq, setC_ok, setC_i, slT_t, slF_t, slT_v, slF_v, r3', tn1, tn2, ← List.map_take, ← List.map_drop, ints_f, sum_v, sum_t, any_v, all_v, if_and, if_or, Int.cast_ofNat_Int, Int.zero_add, Int.add_zero, Bool.and_eq_true, Bool.or_eq_true, Bool.not_eq_true, Bool.not_eq_eq_eq_not, decide_eq_false_iff_not, decide_true, decide_false, List.length_range, Bool.decide_eq_true, List.isEmpty_cons])
local macro_rules | `(tactic| wtm_at "wx") => `(tactic| simp (maxSteps := 2000000) (disch := (first | omega | assumption | (refine tv_nn ?_; omega) | (refine tv_lt ?_; omega) | (refine tv_na ?_ ?_ <;> omega) | (wtm_at "fl") | (simp only [List.length_map, List.length_range, List.length_cons, List.length_nil, List.length_append, List.length_set, List.length_reverse, List.length_take, List.length_drop, List.length_dropLast]; omega))) only [*, true_implies, false_implies, implies_true, not_true_eq_false, ne_eq, Int.reduceEq, Int.reduceNeg, Int.reduceToNat, reduceCtorEq, Bool.not_true, Bool.not_false, Classical.not_not, Int.toNat_natCast, MS.rngList_len, Nat.zero_le, List.contains_nil, Bool.and_true, Bool.true_and, Bool.and_false, Bool.false_and, List.map_nil, List.append_nil, Nat.reduceLT, Nat.reduceLeDiff, Int.reduceLT, Int.reduceLE, Nat.reduceMul, Int.reduceMul, Int.reduceAdd, Int.reduceSub, List.length_cons, List.length_nil, Nat.reduceAdd, Nat.reduceSub, Nat.zero_add, List.getElem?_cons_zero, List.getElem?_cons_succ, List.contains_cons, Nat.reduceBEq, Bool.or_false, Bool.or_true, Bool.false_or, outB_0, outB_1, outB_2, outB_3, outB_4, outB_5, outB_6, outB_7, outB_8, eq_ss, eq_nn, X_non, X_bl, T_bl, X_int, X_str, X_var, T_var, X_gl, X_tup, X_lst, X_bin, X_neg, X_cmp, T_cmp, X_chain, T_chain, X_isN', T_isN, isNon_non, isNon_int, isNon_tup, isNon_str, isNon_bl, eqt, eqf, X_isB, T_isB, X_ite, X_idx, T_idx, X_slT, X_slF, X_slB, X_rev, X_call, T_call, X_bi, T_bi, X_pop, X_popAt, X_mt, T_mt, X_rng, T_bin, X_not, T_not, X_and, T_and, X_or, T_or, V_nil, V_cons, R_nil, R_cons, AV_nil, AV_cons, OV_nil, OV_cons, A_nil, A_cons, O_nil, O_cons, S_asg, S_asgT, S_par, S_setI, S_aug, S_app, S_revI, S_expr, S_ret, S_retN, S_ite, S_for, S_while, S_brk, S_pass, S_kill, W_some, W_none, W_bind, W_map, W_ite, get0, getS, List.set_cons_zero, List.set_cons_succ, fin_f, fin_t, tst_eq, blR_bl, pk_val, pk_own, pk_ref, fz_val, fz_own, fz_ref, bindR_val, bindR_own, bindR_ref, intD_int, tru_bl, tru_int, tru_vl, tru_tup, tru_fl, tru_non, pks, bindT, setAll, bindRs, unref, wipe, unlock, itR, callB, refs, argB, argB1, backB, back1, noRef, augC, add_i, sub_i, badd_i, badd_t, bsub_i, c_eq, c_ne, c_lt, c_le, c_gt, c_ge, c_in_t, c_in_l, c_nin_t, c_nin_l, dok_l, dok_r, dep_int, dep_bl, dep_non, dep_str, eq_ii, eq_bb, b_len_t, b_len_v, b_len_f, b_tup_t, b_tup_v, b_tup_f, b_lst_t, b_lst_v, b_lst_f, b_min2, b_max2, b_abs, b_int_i, b_int_b, b_isB, b_isI, b_isS, b_isT, b_sum_v, b_sum_t, b_any_v, b_all_v, popL, outR_val, outR_own, outR_ref, List.nodup_nil, List.nodup_cons, List.not_mem_nil, not_false_eq_true, and_self, if_true, Bool.false_eq_true, if_false, List.mem_cons, or_false, true_and, and_true, decide_eq_true_eq, beq_iff_eq, Option.map_some, Option.bind_some, List.length_map, List.nil_append, List.cons_append, List.replicate, X_compR, X_compIfR, lim_ok, lim_filter, r1', r2', mul_i, bmul_i, fdiv_i, bfdiv_i, pow_i, mulOk_l, mulOk_r, divOk_of, powOk_of, modS, add_tS, add_lS, mul_lS, iT, iV, iTi, iVi, it0, it1, it2, it3, it4, iv0, iv1, iv2, iv3, iv_p, it_p, rev_t, rev_v, mn_v, mn_t, mx_v, mx_t, isin_bf, all_t, any_t, ← List.map_reverse, eqD_s, dok_s, iv2_i, iv3_i, max_cons, min_cons, idx_last, idx_lastT, setC_last, popI_eq, popC_ok, beq_self_eq_true, bne_self_eq_false, Int.reduceBEq, Int.reduceBNe, idx_hd, dok_ints, isin_nat, isin_int, ite_ints, appL_eq, appC_ok, setL_eq, setC_ok, setC_i, slT_t, slF_t, slT_v, slF_v, r3', tn1, tn2, ← List.map_take, ← List.map_drop, ints_f, sum_v, sum_t, any_v, all_v, if_and, if_or, Int.cast_ofNat_Int, Int.zero_add, Int.add_zero, Bool.and_eq_true, Bool.or_eq_true, Bool.not_eq_true, Bool.not_eq_eq_eq_not, decide_eq_false_iff_not, decide_true, decide_false, List.length_range, Bool.decide_eq_true, List.isEmpty_cons])
local macro_rules | `(tactic| wtm_at "s1") => `(tactic| (first | refine W_st ?_ | refine W_sn ?_) <;> (try wtm_at "wx"))
local macro_rules | `(tactic| wtm_at "go") => `(tactic| ((try simp only [bindT, setAll, Option.bind_some, List.set_cons_zero, List.set_cons_succ]); (first | (wtm_at "s1") | (wtm_at "wx")); repeat (wtm_at "s1")))
local macro_rules | `(tactic| wtm_at "s1") => `(tactic| first | (refine W_sK fun _ _ => ?_; try wtm_at "wx") | (refine W_sn ?_; try wtm_at "wx") | (refine KK.nx (by assumption) ?_; try wtm_at "wx") | (refine KK.rt (by assumption) ?_; try wtm_at "wx") | (refine KK.bk (by assumption) ?_; try wtm_at "wx"))
local macro_rules | `(tactic| wtm_at "go") => `(tactic| ((try simp only [bindT, setAll, Option.bind_some, List.set_cons_zero, List.set_cons_succ]); (first | (wtm_at "s1") | (wtm_at "wx")); repeat (wtm_at "s1")))
local macro_rules | `(tactic| wtm_at "ws") => `(tactic| ((wtm_at "s1"); repeat (wtm_at "s1")))
local macro_rules | `(tactic| wtm_at "tk") => `(tactic| ((first | refine take_q (by rfl) (by omega) (by omega) ?_); intro _ _ _ _; (try wtm_at "wx")))
local macro_rules | `(tactic| wtm_at "g") => `(tactic| ((try simp only [bindT, setAll, Option.bind_some, List.set_cons_zero, List.set_cons_succ]); (first | (wtm_at "tk") | (wtm_at "s1") | (wtm_at "wx")); repeat (first | (wtm_at "tk") | (wtm_at "s1"))))
local macro_rules | `(tactic| wtm_at "gg") => `(tactic| ((try wtm_at "g"); (try (refine ⟨fun _ => ?_, fun _ => ?_⟩ <;> wtm_at "gg"))))
local macro_rules | `(tactic| wtm_at "ifs") => `(tactic| ((repeat' split) <;> omega))

theorem plainW (ns : List Int) (h : ns.length ≤ 63) : W (callF G P 100 22 [.val (.fl (ns.map .int))]) fun p => ∃ bs, p = (.val (.bl true), bs) := by
  obtain ⟨l0, hdr⟩ := draws_okA (G := G) (P := P) (f := 13) (n := 98) rfl ns h (m := 420) (by decide)
  have hdr' : callF G P 99 13 [.val (.fl (ns.map D.int)), .val (.int 420)] = some (.own (l0.map D.int), [.val (.fl (ns.map D.int)), .val (.int 420)]) := hdr
  clear hdr
  show W (callF G P (99 + 1) 22 _) _
  rw [callF_succ (fn := f_law) rfl]
  refine run_ok rfl rfl ?_
  generalize hT : t_law = T
  wtm_at "g"
  refine W_fXR (fun _ _ => True) (fun (l : List Int) e => e.set 1 (.cell (l.map D.int))) l0 trivial (by rfl) ?_ ?_
  · intro i l hi _
    unfold b_law_1
    wtm_at "g"
    refine W_mono (lake_W (by omega) ns _ h) ?_
    rintro p ⟨l', rfl⟩
    wtm_at "g"
    refine W_mono (size_W' (by omega) ns _ h) ?_
    rintro p ⟨l', rfl⟩
    wtm_at "g"
    exact ⟨l', rfl⟩
  · intro l _
    refine KK.nx (by assumption) ?_
    rw [← hT]
    refine W_mono tailW ?_
    rintro p ⟨e, rfl, he⟩
    exact ⟨_, rfl, _, rfl⟩
theorem plain (ns : List Int) (h : ns.length ≤ 63) : ∃ bs, callF G P 100 22 [.val (.fl (ns.map .int))] = some (.val (.bl true), bs) := by
  obtain ⟨p, h1, bs, h2⟩ := plainW ns h
  exact ⟨bs, by rw [← h2]; exact h1⟩
end K30

/-! The row: its defs, the looks at them, the law. -/
namespace K30
open PySem MS Mini
def topS (i : Nat) : Stmt := PySem.Challenge.pw_surelyflowed_k30_whole_lakes_that_are_en.main.body.getD i (.Pass ⟨0, 0, 0, 0⟩)
def FT : List PySem.Str := [("fraction" : PySem.Str), ("plus_of" : PySem.Str), ("minus_of" : PySem.Str), ("times_of" : PySem.Str), ("is_less" : PySem.Str), ("gives_at" : PySem.Str), ("hours_of" : PySem.Str), ("held_after" : PySem.Str), ("given_in" : PySem.Str), ("fills_by" : PySem.Str), ("least_for" : PySem.Str), ("even_out" : PySem.Str), ("is_kept" : PySem.Str), ("_law_draws" : PySem.Str), ("_law_take" : PySem.Str), ("_law_same" : PySem.Str), ("_law_size" : PySem.Str), ("_law_rule" : PySem.Str), ("_law_ins" : PySem.Str), ("_law_lake_right" : PySem.Str), ("_law_played" : PySem.Str), ("_law_size_right" : PySem.Str), ("law" : PySem.Str)]
def GT : List PySem.Str := []
abbrev e_fraction : Ent := ⟨"fraction", topS 2, ["n", "d", "divisor"], ["n", "d"], f_fraction⟩
theorem o_fraction : EntOk FT GT true e_fraction := ⟨by decide +kernel, rfl, fun _ _ _ _ _ _ us hl => match us, hl with | [_, _], _ => rfl, by decide⟩
abbrev e_plus_of : Ent := ⟨"plus_of", topS 3, ["one", "other"], ["one", "other"], f_plus_of⟩
theorem o_plus_of : EntOk FT GT true e_plus_of := ⟨by decide +kernel, rfl, fun _ _ _ _ _ _ us hl => match us, hl with | [_, _], _ => rfl, by decide⟩
abbrev e_minus_of : Ent := ⟨"minus_of", topS 4, ["one", "other"], ["one", "other"], f_minus_of⟩
theorem o_minus_of : EntOk FT GT true e_minus_of := ⟨by decide +kernel, rfl, fun _ _ _ _ _ _ us hl => match us, hl with | [_, _], _ => rfl, by decide⟩
abbrev e_times_of : Ent := ⟨"times_of", topS 5, ["one", "other"], ["one", "other"], f_times_of⟩
theorem o_times_of : EntOk FT GT true e_times_of := ⟨by decide +kernel, rfl, fun _ _ _ _ _ _ us hl => match us, hl with | [_, _], _ => rfl, by decide⟩
abbrev e_is_less : Ent := ⟨"is_less", topS 6, ["one", "other"], ["one", "other"], f_is_less⟩
theorem o_is_less : EntOk FT GT true e_is_less := ⟨by decide +kernel, rfl, fun _ _ _ _ _ _ us hl => match us, hl with | [_, _], _ => rfl, by decide⟩
abbrev e_gives_at : Ent := ⟨"gives_at", topS 8, ["rule", "held", "at", "low", "less", "high", "more", "part"], ["rule", "held"], f_gives_at⟩
theorem o_gives_at : EntOk FT GT true e_gives_at := ⟨by decide +kernel, rfl, fun _ _ _ _ _ _ us hl => match us, hl with | [_, _], _ => rfl, by decide⟩
abbrev e_hours_of : Ent := ⟨"hours_of", topS 9, ["rule", "held", "ins", "found", "own", "now", "goes"], ["rule", "held", "ins"], f_hours_of⟩
theorem o_hours_of : EntOk FT GT true e_hours_of := ⟨by decide +kernel, rfl, fun _ _ _ _ _ _ us hl => match us, hl with | [_, _, _], _ => rfl, by decide⟩
abbrev e_held_after : Ent := ⟨"held_after", topS 10, ["rule", "held", "ins", "now", "goes"], ["rule", "held", "ins"], f_held_after⟩
theorem o_held_after : EntOk FT GT true e_held_after := ⟨by decide +kernel, rfl, fun _ _ _ _ _ _ us hl => match us, hl with | [_, _, _], _ => rfl, by decide⟩
abbrev e_given_in : Ent := ⟨"given_in", topS 11, ["rule", "held", "ins", "now", "goes"], ["rule", "held", "ins"], f_given_in⟩
theorem o_given_in : EntOk FT GT true e_given_in := ⟨by decide +kernel, rfl, fun _ _ _ _ _ _ us hl => match us, hl with | [_, _, _], _ => rfl, by decide⟩
abbrev e_fills_by : Ent := ⟨"fills_by", topS 12, ["rule", "held", "ins", "full", "after", "hour"], ["rule", "held", "ins", "full"], f_fills_by⟩
theorem o_fills_by : EntOk FT GT true e_fills_by := ⟨by decide +kernel, rfl, fun _ _ _ _ _ _ us hl => match us, hl with | [_, _, _, _], _ => rfl, by decide⟩
abbrev e_least_for : Ent := ⟨"least_for", topS 13, ["ins", "out", "best", "lack", "own"], ["ins", "out"], f_least_for⟩
theorem o_least_for : EntOk FT GT true e_least_for := ⟨by decide +kernel, rfl, fun _ _ _ _ _ _ us hl => match us, hl with | [_, _], _ => rfl, by decide⟩
abbrev e_even_out : Ent := ⟨"even_out", topS 14, ["ins", "size", "best", "first", "came", "last", "out"], ["ins", "size"], f_even_out⟩
theorem o_even_out : EntOk FT GT true e_even_out := ⟨by decide +kernel, rfl, fun _ _ _ _ _ _ us hl => match us, hl with | [_, _], _ => rfl, by decide⟩
abbrev e_is_kept : Ent := ⟨"is_kept", topS 15, ["ins", "out", "size"], ["ins", "out", "size"], f_is_kept⟩
theorem o_is_kept : EntOk FT GT true e_is_kept := ⟨by decide +kernel, rfl, fun _ _ _ _ _ _ us hl => match us, hl with | [_, _, _], _ => rfl, by decide⟩
abbrev e_l_law_draws : Ent := ⟨"_law_draws", topS 17, ["script", "many", "cells", "cell", "rest", "draws", "k", "at", "once"], ["script", "many"], f_l_law_draws⟩
theorem o_l_law_draws : EntOk FT GT true e_l_law_draws := ⟨by decide +kernel, rfl, fun _ _ _ _ _ _ us hl => match us, hl with | [_, _], _ => rfl, by decide⟩
abbrev e_l_law_take : Ent := ⟨"_law_take", topS 18, ["draws", "many"], ["draws", "many"], f_l_law_take⟩
theorem o_l_law_take : EntOk FT GT true e_l_law_take := ⟨by decide +kernel, rfl, fun _ _ _ _ _ _ us hl => match us, hl with | [_, _], _ => rfl, by decide⟩
abbrev e_l_law_same : Ent := ⟨"_law_same", topS 19, ["actual", "due", "k"], ["actual", "due"], f_l_law_same⟩
theorem o_l_law_same : EntOk FT GT true e_l_law_same := ⟨by decide +kernel, rfl, fun _ _ _ _ _ _ us hl => match us, hl with | [_, _], _ => rfl, by decide⟩
abbrev e_l_law_size : Ent := ⟨"_law_size", topS 20, ["draws", "script", "kind", "number"], ["draws", "script"], f_l_law_size⟩
theorem o_l_law_size : EntOk FT GT true e_l_law_size := ⟨by decide +kernel, rfl, fun _ _ _ _ _ _ us hl => match us, hl with | [_, _], _ => rfl, by decide⟩
abbrev e_l_law_rule : Ent := ⟨"_law_rule", topS 21, ["draws", "script", "by", "found", "k"], ["draws", "script"], f_l_law_rule⟩
theorem o_l_law_rule : EntOk FT GT true e_l_law_rule := ⟨by decide +kernel, rfl, fun _ _ _ _ _ _ us hl => match us, hl with | [_, _], _ => rfl, by decide⟩
abbrev e_l_law_ins : Ent := ⟨"_law_ins", topS 22, ["draws", "many", "by", "k"], ["draws", "many", "by"], f_l_law_ins⟩
theorem o_l_law_ins : EntOk FT GT true e_l_law_ins := ⟨by decide +kernel, rfl, fun _ _ _ _ _ _ us hl => match us, hl with | [_, _, _], _ => rfl, by decide⟩
abbrev e_l_law_lake_right : Ent := ⟨"_law_lake_right", topS 23, ["draws", "script", "rule", "by", "held", "ins", "after", "goes", "whole", "hour", "now", "cut", "there", "calm", "gentle", "k", "more", "full", "told", "own"], ["draws", "script"], f_l_law_lake_right⟩
theorem o_l_law_lake_right : EntOk FT GT true e_l_law_lake_right := ⟨by decide +kernel, rfl, fun _ _ _ _ _ _ us hl => match us, hl with | [_, _], _ => rfl, by decide⟩
abbrev e_l_law_played : Ent := ⟨"_law_played", topS 24, ["ins", "out", "size", "held", "least", "own"], ["ins", "out", "size"], f_l_law_played⟩
theorem o_l_law_played : EntOk FT GT true e_l_law_played := ⟨by decide +kernel, rfl, fun _ _ _ _ _ _ us hl => match us, hl with | [_, _, _], _ => rfl, by decide⟩
abbrev e_l_law_size_right : Ent := ⟨"_law_size_right", topS 25, ["draws", "script", "by", "ins", "out", "least", "own", "more", "size", "told", "times", "great"], ["draws", "script"], f_l_law_size_right⟩
theorem o_l_law_size_right : EntOk FT GT true e_l_law_size_right := ⟨by decide +kernel, rfl, fun _ _ _ _ _ _ us hl => match us, hl with | [_, _], _ => rfl, by decide⟩
abbrev e_law : Ent := ⟨"law", topS 26, ["script", "draws", "k", "rule"], ["script"], f_law⟩
theorem o_law : EntOk FT GT true e_law := ⟨by decide +kernel, rfl, fun _ _ _ _ _ _ us hl => match us, hl with | [_], _ => rfl, by decide⟩
def es : List Ent := [e_fraction, e_plus_of, e_minus_of, e_times_of, e_is_less, e_gives_at, e_hours_of, e_held_after, e_given_in, e_fills_by, e_least_for, e_even_out, e_is_kept, e_l_law_draws, e_l_law_take, e_l_law_same, e_l_law_size, e_l_law_rule, e_l_law_ins, e_l_law_lake_right, e_l_law_played, e_l_law_size_right, e_law]
theorem oks : ∀ e ∈ es, EntOk (es.map (·.x)) GT true e := by
  intro e he
  simp only [es, List.mem_cons, List.not_mem_nil, or_false] at he
  rcases he with rfl | rfl | rfl | rfl | rfl | rfl | rfl | rfl | rfl | rfl | rfl | rfl | rfl | rfl | rfl | rfl | rfl | rfl | rfl | rfl | rfl | rfl | rfl
  · exact o_fraction
  · exact o_plus_of
  · exact o_minus_of
  · exact o_times_of
  · exact o_is_less
  · exact o_gives_at
  · exact o_hours_of
  · exact o_held_after
  · exact o_given_in
  · exact o_fills_by
  · exact o_least_for
  · exact o_even_out
  · exact o_is_kept
  · exact o_l_law_draws
  · exact o_l_law_take
  · exact o_l_law_same
  · exact o_l_law_size
  · exact o_l_law_rule
  · exact o_l_law_ins
  · exact o_l_law_lake_right
  · exact o_l_law_played
  · exact o_l_law_size_right
  · exact o_law
theorem fns : es.map (·.fn) = P := rfl
end K30

open PySem PySem.W PyProof.Rows in
set_option maxHeartbeats 0 in
theorem PySem.Challenge.cw_surelyflowed_k30_whole_lakes_that_are_en_holds : PySem.Challenge.rw_surelyflowed_k30_whole_lakes_that_are_en.Holds := by
  w_on; o_law; k_head; (case hw => w_witness2)
  k_fill
  refine L2.walk_of (l := PySem.Challenge.rw_surelyflowed_k30_whole_lakes_that_are_en) (n := 63) (k := 100) (x := "script") (CX := fun _ => L2.CX0) (sp := fun w => MS.spF _ (Mini.callF K30.G (K30.es.map (·.fn)) 100) 22) rfl (by decide) rfl ⟨rfl, by decide, by decide⟩ (fun w h Y => PySem.W.kIn_of Y) ?F (fun w H a ns hl _ hS => (K30.plain ns hl).elim fun bs h => MS.sp_law hS (by rw [K30.fns]; exact h) fun _ => rfl) (fun _ _ _ _ _ h => h)
  case F =>
    intro w mg fa h KX G hmg
    refine' MS.law_fin (eL := K30.e_law) hmg ?W K30.oks ?D rfl rfl
    case W =>
      refine ⟨?zb, ?gcd, (fun i x d h1 h2 => by cases i <;> cases h1)⟩
      case zb =>
        intro x hx
        simp only [MS.biNames, List.mem_cons, List.not_mem_nil, or_false] at hx
        rcases hx with rfl | rfl | rfl | rfl | rfl | rfl | rfl | rfl | rfl | rfl | rfl | rfl | rfl | rfl | rfl
        all_goals (refine PySem.W.mg_none_of KX G ?_; k_is)
      case gcd =>
        intro _
        refine PySem.W.mg_of KX G ?_; k_is
    case D =>
      intro e he
      simp only [K30.es, List.mem_cons, List.not_mem_nil, or_false] at he
      rcases he with rfl | rfl | rfl | rfl | rfl | rfl | rfl | rfl | rfl | rfl | rfl | rfl | rfl | rfl | rfl | rfl | rfl | rfl | rfl | rfl | rfl | rfl | rfl
      · refine' MS.defIs KX G ?a ?l ?c ?k
        (case a => k_is); (case l => k_is); (case c => k_is); (case k => k_is)
      · refine' MS.defIs KX G ?a ?l ?c ?k
        (case a => k_is); (case l => k_is); (case c => k_is); (case k => k_is)
      · refine' MS.defIs KX G ?a ?l ?c ?k
        (case a => k_is); (case l => k_is); (case c => k_is); (case k => k_is)
      · refine' MS.defIs KX G ?a ?l ?c ?k
        (case a => k_is); (case l => k_is); (case c => k_is); (case k => k_is)
      · refine' MS.defIs KX G ?a ?l ?c ?k
        (case a => k_is); (case l => k_is); (case c => k_is); (case k => k_is)
      · refine' MS.defIs KX G ?a ?l ?c ?k
        (case a => k_is); (case l => k_is); (case c => k_is); (case k => k_is)
      · refine' MS.defIs KX G ?a ?l ?c ?k
        (case a => k_is); (case l => k_is); (case c => k_is); (case k => k_is)
      · refine' MS.defIs KX G ?a ?l ?c ?k
        (case a => k_is); (case l => k_is); (case c => k_is); (case k => k_is)
      · refine' MS.defIs KX G ?a ?l ?c ?k
        (case a => k_is); (case l => k_is); (case c => k_is); (case k => k_is)
      · refine' MS.defIs KX G ?a ?l ?c ?k
        (case a => k_is); (case l => k_is); (case c => k_is); (case k => k_is)
      · refine' MS.defIs KX G ?a ?l ?c ?k
        (case a => k_is); (case l => k_is); (case c => k_is); (case k => k_is)
      · refine' MS.defIs KX G ?a ?l ?c ?k
        (case a => k_is); (case l => k_is); (case c => k_is); (case k => k_is)
      · refine' MS.defIs KX G ?a ?l ?c ?k
        (case a => k_is); (case l => k_is); (case c => k_is); (case k => k_is)
      · refine' MS.defIs KX G ?a ?l ?c ?k
        (case a => k_is); (case l => k_is); (case c => k_is); (case k => k_is)
      · refine' MS.defIs KX G ?a ?l ?c ?k
        (case a => k_is); (case l => k_is); (case c => k_is); (case k => k_is)
      · refine' MS.defIs KX G ?a ?l ?c ?k
        (case a => k_is); (case l => k_is); (case c => k_is); (case k => k_is)
      · refine' MS.defIs KX G ?a ?l ?c ?k
        (case a => k_is); (case l => k_is); (case c => k_is); (case k => k_is)
      · refine' MS.defIs KX G ?a ?l ?c ?k
        (case a => k_is); (case l => k_is); (case c => k_is); (case k => k_is)
      · refine' MS.defIs KX G ?a ?l ?c ?k
        (case a => k_is); (case l => k_is); (case c => k_is); (case k => k_is)
      · refine' MS.defIs KX G ?a ?l ?c ?k
        (case a => k_is); (case l => k_is); (case c => k_is); (case k => k_is)
      · refine' MS.defIs KX G ?a ?l ?c ?k
        (case a => k_is); (case l => k_is); (case c => k_is); (case k => k_is)
      · refine' MS.defIs KX G ?a ?l ?c ?k
        (case a => k_is); (case l => k_is); (case c => k_is); (case k => k_is)
      · refine' MS.defIs KX G ?a ?l ?c ?k
        (case a => k_is); (case l => k_is); (case c => k_is); (case k => k_is)

