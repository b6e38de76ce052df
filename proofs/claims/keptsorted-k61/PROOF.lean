import PyProof.Rows.All
import HandS.ForMost
import HandS.SortInts
import HandS.IsInst
import HandS.Style
import PyProof.ReprLen
import PyProof.Rows.RegStrFacts
import HandS.ForExc
import HandS.Iter
import HandS.Conv
import HandS.Dict
import HandS.Small
import HandS.Ends
import Wide.All
import OpenK.AllK
import Wide.FinOn
import HandS.EndBits
import PySem.Challenge.RW_keptsorted_k61_whole_sweeps
set_option linter.all false
set_option autoImplicit false
namespace KS
open PySem L2

/-! ### data -/
inductive D where
  | non | bl (b : Bool) | int (i : Int) | str (s : Str)
  | scr (ns : List Int)
  | lst (o : Bool) (xs : List D)
  | tup (xs : List D)
  | dct (o : Bool) (kvs : List (Key × D))
  | dcu (o : Bool) (kvs : List (List Key × D))

mutual
def noOwn : D → Bool
  | .lst o xs => !o && noOwnL xs
  | .tup xs => noOwnL xs
  | .dct o kvs => !o && noOwnK kvs
  | .dcu o kvs => !o && noOwnU kvs
  | _ => true
def noOwnL : List D → Bool
  | [] => true
  | x :: xs => noOwn x && noOwnL xs
def noOwnK : List (Key × D) → Bool
  | [] => true
  | (_, x) :: xs => noOwn x && noOwnK xs
def noOwnU : List (List Key × D) → Bool
  | [] => true
  | (_, x) :: xs => noOwn x && noOwnU xs
end
mutual
def frz : D → D
  | .lst _ xs => .lst false (frzL xs)
  | .tup xs => .tup (frzL xs)
  | .dct _ kvs => .dct false (frzK kvs)
  | .dcu _ kvs => .dcu false (frzU kvs)
  | d => d
def frzL : List D → List D
  | [] => []
  | x :: xs => frz x :: frzL xs
def frzK : List (Key × D) → List (Key × D)
  | [] => []
  | (k, x) :: xs => (k, frz x) :: frzK xs
def frzU : List (List Key × D) → List (List Key × D)
  | [] => []
  | (k, x) :: xs => (k, frz x) :: frzU xs
end
mutual
/-- every list and dict in it is owned -/
def isFresh : D → Bool
  | .lst o xs => o && isFreshL xs
  | .tup xs => isFreshL xs
  | .dct o kvs => o && isFreshK kvs
  | .dcu o kvs => o && isFreshU kvs
  | _ => true
def isFreshL : List D → Bool
  | [] => true
  | x :: xs => isFresh x && isFreshL xs
def isFreshK : List (Key × D) → Bool
  | [] => true
  | (_, x) :: xs => isFresh x && isFreshK xs
def isFreshU : List (List Key × D) → Bool
  | [] => true
  | (_, x) :: xs => isFresh x && isFreshU xs
end
def flat : D → Bool
  | .non => true | .bl _ => true | .int _ => true | .str _ => true | _ => false
mutual
def toPy : D → PyData
  | .non => .none | .bl b => .bool b | .int i => .int i | .str s => .str s
  | .lst _ xs => .list (toPyL xs)
  | .tup xs => .tuple (toPyL xs)
  | .dct _ _ => .dict []
  | .dcu _ _ => .dict []
  | .scr _ => .dict []
def toPyL : List D → List PyData
  | [] => []
  | x :: xs => toPy x :: toPyL xs
end
mutual
def noDict : D → Bool
  | .lst _ xs => noDictL xs
  | .tup xs => noDictL xs
  | .dct _ _ => false
  | .dcu _ _ => false
  | .scr _ => false
  | _ => true
def noDictL : List D → Bool
  | [] => true
  | x :: xs => noDict x && noDictL xs
end

/-! ### results -/
inductive R (α : Type) where
  | ok (a : α) | exc (c : Str) (fs : List D) | bad
def R.bind {α β : Type} : R α → (α → R β) → R β
  | .ok a, f => f a
  | .exc c fs, _ => .exc c fs
  | .bad, _ => .bad
instance : Monad R := { pure := R.ok, bind := R.bind }
theorem R.bind_ok {α β : Type} (a : α) (f : α → R β) : (R.ok a >>= f) = f a := rfl
theorem R.bind_bad {α β : Type} (f : α → R β) : ((R.bad : R α) >>= f) = R.bad := rfl
theorem R.bind_exc {α β : Type} (c : Str) (fs : List D) (f : α → R β) : ((R.exc c fs : R α) >>= f) = R.exc c fs := rfl
theorem R.pure_eq {α : Type} (a : α) : (pure a : R α) = R.ok a := rfl
def R.ofO {α : Type} : Option α → R α
  | some a => .ok a
  | none => .bad
def guardR (b : Bool) : R Unit := if b then .ok () else .bad

/-! ### the core language -/
inductive Prim where
  | add | sub | mul | fdiv | mod | pow | shl | shr | band | neg | nt
  | eq | ne | lt | le | gt | ge | isin | notin | isN | notN
  | len | list | tuple | sorted | max1 | min1 | max2 | min2 | sum | all | any | abs | int | repr
  | isInt | isBool | isList
  | ix | sl | sls | rev | part | lrng
  deriving DecidableEq
/-- what a loop walks -/
inductive IK where
  | seq | rng1 | rng2 | rng3 | enum | zip | items | keys
  deriving DecidableEq
inductive E where
  | lit (d : D) | var (i : Nat) | bor (i : Nat)
  | nil | cons (a es : E)
  | op (p : Prim) (es : E)
  | and (a b : E) | or (a b : E) | ife (c a b : E) | chn (p q : Prim) (a b c : E)
  | lst (es : E) | tup (es : E)
  | call (f : Nat) (pm : List Nat) (es : E)
  | pop (i : Nat) (es : E)
  | pop0 (i : Nat)
  | frz (a : E)
  | callT (f : Nat) (es : E)
  | dget (i : Nat) (k : E) | din (neg : Bool) (a : E) (i : Nat) | dsp (k : Int) (a : E)
  | compK (elt : E) (ts : List Nat) (i : Nat) (c : E)
  | pin (a : E)
  | comp (elt : E) (ts : List Nat) (k : IK) (es : E) (c : E)
  | comp2 (elt : E) (ts : List Nat) (k : IK) (es : E) (us : List Nat) (l : IK) (fs : E) (c : E)
inductive S where
  | skip | seq (s r : S)
  | asg (i : Nat) (e : E) | asgT (is : List Nat) (e : E) | par (is : List Nat) (es : E)
  | seti (i : Nat) (ix : E) (e : E) | swp (i : Nat) (ix jx : E) (a b : E)
  | aug (i : Nat) (p : Prim) (e : E)
  | app (i : Nat) (e : E) | appP (i : Nat) (path : List Nat) (y : D) | appX (i : Nat) (ix : E) (j : Nat) | ins (i : Nat) (k e : E)
  | ex (e : E)
  | for_ (ts : List Nat) (k : IK) (es : E) (b : S)
  | dset (i : Nat) (k e : E)
  | whl (c : E) (b : S) | ifs (c : E) (a b : S)
  | ret (e : E) | brk | cnt

abbrev Env := List (Option D)
inductive Out where
  | nx (env : Env) | ret (d : D) (env : Env) | brk (env : Env) | ct (env : Env)

/-! ### operations on data -/
def line : Nat := 16777216
def sIx (n d : Nat) : Option Int → Nat
  | none => d
  | some v => if v < 0 then (v + (n : Int)).toNat else min v.toNat n
def cut {α : Type} (xs : List α) (lo hi : Option Int) : List α := (xs.drop (sIx xs.length 0 lo)).take (sIx xs.length xs.length hi - sIx xs.length 0 lo)
def optI : D → R (Option Int)
  | .non => .ok none
  | .int i => .ok (some i)
  | _ => .bad
def intL : List D → Option (List Int)
  | [] => some []
  | .int i :: xs => (intL xs).map (i :: ·)
  | _ :: _ => none
def boolL : List D → Option (List Bool)
  | [] => some []
  | .bl i :: xs => (boolL xs).map (i :: ·)
  | _ :: _ => none
def insI (x : Int) : List Int → List Int
  | [] => [x]
  | y :: ys => if x ≤ y then x :: y :: ys else y :: insI x ys
def sortI : List Int → List Int
  | [] => []
  | x :: xs => insI x (sortI xs)
def maxI : List Int → Int
  | [] => 0
  | x :: xs => xs.foldl max x
def minI : List Int → Int
  | [] => 0
  | x :: xs => xs.foldl min x
def eqF : D → D → Bool
  | .non, .non => true
  | .bl a, .bl b => a == b
  | .bl a, .int b => (if a then 1 else 0) == b
  | .int a, .bl b => a == (if b then 1 else 0)
  | .int a, .int b => a == b
  | .str a, .str b => a == b
  | _, _ => false
def keyOf : D → Option Key
  | .int i => some (.inl i)
  | .str s => some (.inr s)
  | _ => none
def keysOf : List D → Option (List Key)
  | [] => some []
  | x :: xs => (keyOf x).bind fun k => (keysOf xs).map (k :: ·)
def dget {κ : Type} [DecidableEq κ] (kvs : List (κ × D)) (k : κ) : Option D := (kvs.find? fun kv => decide (kv.1 = k)).map (·.2)
def eqD (x y : D) : R Bool :=
  if flat x && flat y then .ok (eqF x y)
  else if noDict x && noDict y && SeqAt.shaped (toPy x) && SeqAt.shaped (toPy y) then .ok (PyData.eqv (toPy x) (toPy y)) else .bad
mutual
/-- ints, bools, None in lists and tuples, at most so deep -/
def shw : D → Nat → Bool
  | .non, _ => true
  | .bl _, _ => true
  | .int i, _ => decide (i.natAbs.log2 < 1920)
  | .lst _ xs, k => match k with
    | 0 => false
    | k + 1 => shwL xs k
  | .tup xs, k => match k with
    | 0 => false
    | k + 1 => shwL xs k
  | _, _ => false
def shwL : List D → Nat → Bool
  | [], _ => true
  | x :: xs, k => shw x k && shwL xs k
end
mutual
def nodes : D → Nat
  | .lst _ xs => nodesL xs + 1
  | .tup xs => nodesL xs + 1
  | _ => 1
def nodesL : List D → Nat
  | [] => 0
  | x :: xs => nodes x + nodesL xs
end
def reprOk (d : D) : Bool := shw d 16 && decide (nodes d ≤ 8000)
def getIx (xs : List D) (i : Int) : R D := match atI xs i with
  | some d => if noOwn d then .ok d else .bad
  | none => .bad
def pAdd : List D → R D
  | [.int a, .int b] => .ok (.int (a + b))
  | [.lst _ xs, .lst _ ys] => if noOwnL xs && noOwnL ys && decide (xs.length + ys.length ≤ line) then .ok (.lst true (xs ++ ys)) else .bad
  | [.tup xs, .tup ys] => if noOwnL xs && noOwnL ys && !xs.isEmpty && decide (xs.length + ys.length ≤ line) then .ok (.tup (xs ++ ys)) else .bad
  | _ => .bad
def pMul : List D → R D
  | [.int a, .int b] => if decide (a.natAbs < 2 ^ 63) || decide (b.natAbs < 2 ^ 63) then .ok (.int (a * b)) else .bad
  | [.lst _ xs, .int k] => if noOwnL xs && decide (xs.length * k.toNat ≤ line) && decide (-(2 ^ 63) ≤ k) && decide (k < 2 ^ 63) then .ok (.lst true (List.replicate k.toNat xs).flatten) else .bad
  | _ => .bad
/-- two ints, guarded -/
def pI2 (g : Int → Int → Bool) (f : Int → Int → D) : List D → R D
  | [.int a, .int b] => if g a b then .ok (f a b) else .bad
  | _ => .bad
def pI1 (f : Int → D) : List D → R D
  | [.int a] => .ok (f a)
  | _ => .bad
def pNot : List D → R D
  | [.bl a] => .ok (.bl (!a))
  | _ => .bad
def pEq (neg : Bool) : List D → R D
  | [a, b] => match eqD a b with | .ok r => .ok (.bl (if neg then !r else r)) | _ => .bad
  | _ => .bad
def pIn (neg : Bool) : List D → R D
  | [x, .lst _ xs] => if flat x && xs.all flat then .ok (.bl (if neg then !(xs.any fun y => eqF y x) else xs.any fun y => eqF y x)) else .bad
  | [x, .tup xs] => if flat x && xs.all flat then .ok (.bl (if neg then !(xs.any fun y => eqF y x) else xs.any fun y => eqF y x)) else .bad
  | _ => .bad
def isNonD : D → Bool
  | .non => true
  | _ => false
def pIs (neg : Bool) : List D → R D
  | [a] => .ok (.bl (if neg then !isNonD a else isNonD a))
  | _ => .bad
def pLen : List D → R D
  | [.lst _ xs] => .ok (.int xs.length)
  | [.tup xs] => .ok (.int xs.length)
  | _ => .bad
def pList : List D → R D
  | [.lst _ xs] => if noOwnL xs then .ok (.lst true xs) else .bad
  | [.tup xs] => if noOwnL xs then .ok (.lst true xs) else .bad
  | _ => .bad
def pTuple : List D → R D
  | [.lst _ xs] => if noOwnL xs then .ok (.tup xs) else .bad
  | _ => .bad
/-- a list of ints -/
def pLI (f : List Int → R D) : List D → R D
  | [.lst _ xs] => match intL xs with | some ns => f ns | none => .bad
  | _ => .bad
def pLB (f : List Bool → D) : List D → R D
  | [.lst _ xs] => match boolL xs with | some ns => .ok (f ns) | none => .bad
  | _ => .bad
def pInt : List D → R D
  | [.int a] => .ok (.int a)
  | [.bl a] => .ok (.int (if a then 1 else 0))
  | _ => .bad
def pRepr : List D → R D
  | [d] => if reprOk d then .ok (.str (toPy d).shown) else .bad
  | _ => .bad
def isIntD : D → Bool
  | .int _ => true | .bl _ => true | _ => false
def isBoolD : D → Bool
  | .bl _ => true | _ => false
def isListD : D → Bool
  | .lst _ _ => true | _ => false
/-- isinstance serves all but the script and dicts here -/
def isiOk : D → Bool
  | .scr _ => false
  | .dct _ _ => false
  | .dcu _ _ => false
  | _ => true
def pIsi (f : D → Bool) : List D → R D
  | [d] => if isiOk d then .ok (.bl (f d)) else .bad
  | _ => .bad
def pIx : List D → R D
  | [.lst _ xs, .int i] => getIx xs i
  | [.tup xs, .int i] => getIx xs i
  | _ => .bad
def pSl : List D → R D
  | [.scr ns, a, b] => match optI a, optI b with | .ok lo, .ok hi => .ok (.lst true ((cut ns lo hi).map .int)) | _, _ => .bad
  | [.lst _ xs, a, b] => match optI a, optI b with | .ok lo, .ok hi => if noOwnL xs then .ok (.lst true (cut xs lo hi)) else .bad | _, _ => .bad
  | _ => .bad
/-- the items of xs[lo:hi:st] -/
def pickL {α : Type} (xs : List α) (lo hi st : Option Int) : List α := (PySem.sliceRange (PySem.sliceBounds lo hi st xs.length).1 (PySem.sliceBounds lo hi st xs.length).2.1 (PySem.sliceBounds lo hi st xs.length).2.2).filterMap fun i => xs[i]?
def pSls : List D → R D
  | [.lst _ xs, a, b, c] => match optI a, optI b, optI c with | .ok lo, .ok hi, .ok st => if decide (st ≠ some 0) && noOwnL xs then .ok (.lst true (pickL xs lo hi st)) else .bad | _, _, _ => .bad
  | _ => .bad
def pRev : List D → R D
  | [.lst _ xs] => if noOwnL xs then .ok (.lst true xs.reverse) else .bad
  | _ => .bad
def pPart : List D → R D
  | [.non] => .ok .non
  | [.int i] => .ok (.int i)
  | _ => .bad
/-- the items that a loop walks -/
def rangeD (lo c : Int) (n : Nat) : List D := (List.range n).map fun (i : Nat) => D.int (lo + (i : Int) * c)
/-- the number of turns of range(lo, hi, c) -/
def rangeN (lo hi c : Int) : Nat := if 0 < c then (if lo < hi then ((hi - lo - 1) / c + 1).toNat else 0) else if hi < lo then ((lo - hi - 1) / (-c) + 1).toNat else 0
def rOk (i : Int) : Bool := decide (-(2 ^ 62) ≤ i) && decide (i < 2 ^ 62)
/-- range's arguments: the first one, the bound, the step, how many -/
def rgData : List D → Option (Int × Int × Int × Nat)
  | [.int j] => if rOk j && decide (j ≤ line) then some (0, j, 1, j.toNat) else none
  | [.int i, .int j] => if rOk i && rOk j && decide (j - i ≤ line) then some (i, j, 1, (j - i).toNat) else none
  | [.int i, .int j, .int c] => if decide (i.natAbs < 2 ^ 40) && decide (j.natAbs < 2 ^ 40) && decide (c ≠ 0) && decide (c.natAbs < 1000000000) && decide (rangeN i j c ≤ line) then some (i, j, c, rangeN i j c) else none
  | _ => none
def pLrng (ds : List D) : R D := match rgData ds with
  | some (a, _, c, n) => .ok (.lst true (rangeD a c n))
  | none => .bad
def prim (p : Prim) (ds : List D) : R D := match p with
  | .lrng => pLrng ds
  | .part => pPart ds
  | .add => pAdd ds
  | .sub => pI2 (fun _ _ => true) (fun a b => .int (a - b)) ds
  | .mul => pMul ds
  | .fdiv => pI2 (fun _ b => decide (b ≠ 0) && decide (b.natAbs < 1073741824)) (fun a b => .int (a.fdiv b)) ds
  | .mod => pI2 (fun _ b => decide (b ≠ 0)) (fun a b => .int (a.fmod b)) ds
  | .pow => pI2 (fun a n => decide (0 ≤ n) && decide ((Builtin.Int.intBits a : Int) * n ≤ 2 ^ 27)) (fun a n => .int (a ^ n.toNat)) ds
  | .shl => pI2 (fun a n => decide (0 ≤ n) && decide (n ≤ 1000000) && decide (a.natAbs < 2 ^ 64)) (fun a n => .int (a * 2 ^ n.toNat)) ds
  | .shr => pI2 (fun _ n => decide (0 ≤ n)) (fun a n => .int (a / 2 ^ n.toNat)) ds
  | .band => pI2 (fun _ _ => true) (fun a b => .int (Builtin.bitAnd a b)) ds
  | .neg => pI1 (fun a => .int (-a)) ds
  | .nt => pNot ds
  | .eq => pEq false ds
  | .ne => pEq true ds
  | .lt => pI2 (fun _ _ => true) (fun a b => .bl (decide (a < b))) ds
  | .le => pI2 (fun _ _ => true) (fun a b => .bl (decide (a ≤ b))) ds
  | .gt => pI2 (fun _ _ => true) (fun a b => .bl (decide (b < a))) ds
  | .ge => pI2 (fun _ _ => true) (fun a b => .bl (decide (b ≤ a))) ds
  | .isin => pIn false ds
  | .notin => pIn true ds
  | .isN => pIs false ds
  | .notN => pIs true ds
  | .len => pLen ds
  | .list => pList ds
  | .tuple => pTuple ds
  | .sorted => pLI (fun ns => .ok (.lst true ((sortI ns).map .int))) ds
  | .max1 => pLI (fun ns => if ns.isEmpty then .bad else .ok (.int (maxI ns))) ds
  | .min1 => pLI (fun ns => if ns.isEmpty then .bad else .ok (.int (minI ns))) ds
  | .max2 => pI2 (fun _ _ => true) (fun a b => .int (if b > a then b else a)) ds
  | .min2 => pI2 (fun _ _ => true) (fun a b => .int (if b < a then b else a)) ds
  | .sum => pLI (fun ns => .ok (.int ns.sum)) ds
  | .all => pLB (fun ns => .bl (ns.all id)) ds
  | .any => pLB (fun ns => .bl (ns.any id)) ds
  | .abs => pI1 (fun a => .int (if a < 0 then -a else a)) ds
  | .int => pInt ds
  | .repr => pRepr ds
  | .isInt => pIsi isIntD ds
  | .isBool => pIsi isBoolD ds
  | .isList => pIsi isListD ds
  | .ix => pIx ds
  | .sl => pSl ds
  | .rev => pRev ds
  | .sls => pSls ds

def itSeq : List D → R (List D)
  | [.lst _ xs] => .ok xs
  | [.tup xs] => .ok xs
  | _ => .bad
def itR1 : List D → R (List D)
  | [.int j] => if rOk j && decide (j ≤ line) then .ok (rangeD 0 1 j.toNat) else .bad
  | _ => .bad
def itR2 : List D → R (List D)
  | [.int i, .int j] => if rOk i && rOk j && decide (j - i ≤ line) then .ok (rangeD i 1 (j - i).toNat) else .bad
  | _ => .bad
def itR3 : List D → R (List D)
  | [.int i, .int j, .int c] => if decide (i.natAbs < 2 ^ 40) && decide (j.natAbs < 2 ^ 40) && decide (c ≠ 0) && decide (c.natAbs < 1000000000) && decide (rangeN i j c ≤ line) then .ok (rangeD i c (rangeN i j c)) else .bad
  | _ => .bad
def itEnum : List D → R (List D)
  | [.lst _ xs] => .ok (xs.zipIdx.map fun p => .tup [.int p.2, p.1])
  | _ => .bad
def itZip : List D → R (List D)
  | [.lst _ xs, .lst _ ys] => .ok (List.zipWith (fun x y => .tup [x, y]) xs ys)
  | _ => .bad
def items (k : IK) (ds : List D) : R (List D) := match k with
  | .seq => itSeq ds
  | .rng1 => itR1 ds
  | .rng2 => itR2 ds
  | .rng3 => itR3 ds
  | .enum => itEnum ds
  | .zip => itZip ds
  | .items => .bad
  | .keys => .bad

def getE (env : Env) (i : Nat) : R D := match env[i]? with
  | some (some d) => .ok d
  | _ => .bad
def wipeE (env : Env) : List Nat → Env
  | [] => env
  | v :: vs => (wipeE env vs).set v none
def frzAt (env : Env) (i : Nat) : Env := match env[i]? with
  | some (some d) => env.set i (some (frz d))
  | _ => env
/-- the names that are lent in an argument list -/
def lent : E → List Nat
  | .cons (.bor i) es => i :: lent es
  | .cons _ es => lent es
  | _ => []
def frzAll (env : Env) : List Nat → Env
  | [] => env
  | i :: is => frzAt (frzAll env is) i
/-- all names, no more owned -/
def frzEnv (env : Env) : Env := frzAll env (List.range env.length)
def truth : D → R Bool
  | .bl b => .ok b
  | _ => .bad
def forL (body : D → Env → R Out) : List D → Env → R Out
  | [], env => .ok (.nx env)
  | x :: xs, env => do
    match ← body x env with
    | .nx env => forL body xs env
    | .ct env => forL body xs env
    | .brk env => .ok (.nx env)
    | .ret d env => .ok (.ret d env)
def whileL (c : Env → R (D × Env)) (body : Env → R Out) : Nat → Env → R Out
  | 0, _ => .bad
  | n + 1, env => do
    let (d, env) ← c env
    if ← truth d then
      match ← body env with
      | .nx env => whileL c body n env
      | .ct env => whileL c body n env
      | .brk env => .ok (.nx env)
      | .ret d env => .ok (.ret d env)
    else .ok (.nx env)
def compL (turn : D → Env → R (Option D × Env)) : List D → Env → List D → R (List D × Env)
  | [], env, acc => .ok (acc, env)
  | x :: xs, env, acc => do
    match ← turn x env with
    | (some y, env) => compL turn xs env (acc ++ [y])
    | (none, env) => compL turn xs env acc
def compL2 (turn : D → Env → List D → R (List D × Env)) : List D → Env → List D → R (List D × Env)
  | [], env, acc => .ok (acc, env)
  | x :: xs, env, acc => do let (acc, env) ← turn x env acc; compL2 turn xs env acc
/-- what a dict holds at a key (if it is one), its keys, a key more -/
def dlook : D → D → Option (Option D)
  | .dct _ kvs, k => (keyOf k).map fun k => dget kvs k
  | .dcu _ kvs, .tup ks => (keysOf ks).map fun k => dget kvs k
  | _, _ => none
def keyD : Key → D
  | .inl i => .int i
  | .inr s => .str s
def dkeys : D → Option (List D)
  | .dct _ kvs => some (kvs.map fun kv => keyD kv.1)
  | .dcu _ kvs => some (kvs.map fun kv => .tup (kv.1.map keyD))
  | _ => none
def dputL {κ : Type} [DecidableEq κ] (kvs : List (κ × D)) (k : κ) (d : D) : List (κ × D) := if (kvs.any fun kv => decide (kv.1 = k)) = true then kvs.map (fun kv => if kv.1 = k then (kv.1, d) else kv) else kvs ++ [(k, d)]
def dput (w k d : D) : Option D := match w, k with
  | .dct true kvs, k => if kvs.length < line then (keyOf k).map fun k => .dct true (dputL kvs k (frz d)) else none
  | .dcu true kvs, .tup ks => if kvs.length < line then (keysOf ks).map fun k => .dcu true (dputL kvs k (frz d)) else none
  | _, _ => none
/-- no exception leaves a comprehension here -/
def noX {α : Type} : R α → R α
  | .exc _ _ => .bad
  | r => r
def perm (pm : List Nat) (ds : List D) : R (List D) := if pm.isEmpty then .ok ds else R.ofO (pm.mapM fun i => ds[i]?)
/-- fx: slot 0 is the caller's own object (never stored anew); io f: f changes its first argument; run: the callees -/
structure Ctx where
  fx : Bool
  io : Nat → Bool
  run : Nat → List D → R (D × D)
  fuel : Nat
def setE (C : Ctx) (env : Env) (i : Nat) (d : D) : R Env := if decide (i < env.length) && !(C.fx && i == 0) then .ok (env.set i (some d)) else .bad
def setEs (C : Ctx) : Env → List Nat → List D → R Env
  | env, [], [] => .ok env
  | env, i :: is, d :: ds => do let env ← setE C env i d; setEs C env is ds
  | _, _, _ => .bad
def setTup (C : Ctx) (env : Env) (is : List Nat) : D → R Env
  | .tup ds => setEs C env is ds
  | _ => .bad
/-- the loop's target: one name, or a tuple of names -/
def setT (C : Ctx) (env : Env) (ts : List Nat) (d : D) : R Env := match ts with
  | [i] => setE C env i d
  | is => setTup C env is d
def allFlat : D → Bool
  | .lst true xs => xs.all flat
  | _ => false
def popAt : D → List D → Option (D × D)
  | .lst true xs, [.int k] => if decide (-(2 ^ 63) ≤ k) && decide (k < 2 ^ 63) then (L2.ixN xs.length k).bind fun j => xs[j]?.map fun d => (d, .lst true (xs.eraseIdx j)) else none
  | _, _ => none
def popEnd : D → Option (D × D)
  | .lst true xs => xs[xs.length - 1]?.map fun d => (d, .lst true (xs.eraseIdx (xs.length - 1)))
  | _ => none
/-- an operation; if it asks for things that are not owned, what is lent is frozen -/
def opR (p : Prim) (ln : List Nat) (ds : List D) (env : Env) : R (D × Env) := match prim p ds with
  | .ok d => .ok (d, env)
  | _ => match prim p (ds.map frz) with
    | .ok d => .ok (d, frzAll env ln)
    | _ => .bad

mutual
def evE (C : Ctx) : E → Env → R (D × Env)
  | .lit d, env => .ok (d, env)
  | .var i, env => do let d ← getE env i; .ok (frz d, env.set i (some (frz d)))
  | .bor _, _ => .bad
  | .nil, _ => .bad
  | .cons _ _, _ => .bad
  | .op p es, env => do let (ds, env) ← evA C es env; opR p (lent es) ds env
  | .and a b, env => do let (d, env) ← evE C a env; if ← truth d then evE C b env else .ok (.bl false, env)
  | .or a b, env => do let (d, env) ← evE C a env; if ← truth d then .ok (.bl true, env) else evE C b env
  | .ife c a b, env => do let (d, env) ← evE C c env; if ← truth d then evE C a env else evE C b env
  | .chn p q a b c, env => do
    let (x, env) ← evE C a env; let (y, env) ← evE C b env
    if flat x && flat y then
      if ← truth (← prim p [x, y]) then do let (z, env) ← evE C c env; let d ← prim q [y, z]; let _ ← truth d; .ok (d, env) else .ok (.bl false, env)
    else .bad
  | .lst es, env => do let (ds, env) ← evL C es env; if decide (ds.length ≤ line) then .ok (.lst true ds, env) else .bad
  | .tup es, env => do let (ds, env) ← evL C es env; if decide (ds.length ≤ line) then .ok (.tup ds, env) else .bad
  | .call f pm es, env => do
    let (ds, env) ← evA C es env
    let ds ← perm pm ds
    if C.io f then
      match es, ds, pm with
      | .cons (.bor i) rest, d0 :: ds, [] => if (lent rest).contains i then .bad else do
        let (r, d1) ← C.run f (d0 :: ds.map frz)
        if allFlat d1 then .ok (r, if isFresh r then env.set i (some d1) else frzAll (env.set i (some d1)) (lent rest)) else .bad
      | _, _, _ => .bad
    else do
      let (r, _) ← C.run f (ds.map frz)
      if isFresh r then .ok (r, env) else .ok (r, frzAll env (lent es))
  | .pop i es, env => do
    let d0 ← getE env i
    if isListD d0 then do
      let (ds, env) ← evA C es env
      let w ← getE env i
      match popAt w ds with
      | some (d, w') => .ok (d, env.set i (some w'))
      | none => .bad
    else .bad
  | .pop0 i, env => do
    let d0 ← getE env i
    match popEnd d0 with
      | some (d, w') => .ok (d, env.set i (some w'))
      | none => .bad
  | .comp elt ts k es c, env => do
    let (ds, env) ← evL C es env
    let xs ← items k ds
    let (ys, env) ← noX (compL (fun x env => do
      let env ← setT C (wipeE env ts) ts x
      let (b, env) ← evE C c env
      if ← truth b then do let (y, env) ← evE C elt env; .ok (some y, env) else .ok (none, env)) xs env [])
    if decide (xs.length ≤ line) then .ok (.lst true ys, wipeE env ts) else .bad
  | .comp2 elt ts k es us l fs c, env => do
    let (ds, env) ← evL C es env
    let xs ← items k ds
    let (ys, env) ← noX (compL2 (fun x env acc => do
      let env ← setT C (wipeE env (ts ++ us)) ts x
      let (fs, env) ← evL C fs env
      let ys ← items l fs
      if decide (acc.length + ys.length ≤ line) then
        compL (fun x env => do
          let env ← setT C (wipeE env us) us x
          let (b, env) ← evE C c env
          if ← truth b then do let (y, env) ← evE C elt env; .ok (some y, env) else .ok (none, env)) ys env acc
      else .bad) xs env [])
    .ok (.lst true ys, wipeE env (ts ++ us))
  | .frz a, env => do let (d, env) ← evE C a env; .ok (frz d, env)
  | .dget i k, env => do
    let _ ← getE env i
    let (kd, env) ← evE C k env
    let w ← getE env i
    match dlook w kd with
    | some (some d) => .ok (d, env)
    | _ => .bad
  | .din neg a i, env => do
    let (x, env) ← evE C a env
    let w ← getE env i
    match dlook w x with
    | some o => .ok (.bl (if neg then !o.isSome else o.isSome), env)
    | none => .bad
  | .pin a, env => do let (d, _) ← noX (evE C a (frzEnv env)); if isFresh d then .ok (d, env) else .bad
  | .dsp k a, env => do let (d, env) ← evE C a env; .ok (.dct true [(.inl k, frz d)], env)
  | .compK elt ts i c, env => do
    let w ← getE env i
    match dkeys w with
    | none => .bad
    | some xs => do
      let (ys, env) ← noX (compL (fun x env => do
        let env ← setT C (wipeE env ts) ts x
        let (b, env) ← evE C c env
        if ← truth b then do let (y, env) ← evE C elt env; .ok (some y, env) else .ok (none, env)) xs (frzAt env i) [])
      if decide (xs.length ≤ line) then .ok (.lst true ys, wipeE env ts) else .bad
  | .callT f es, env => do
    let (ds, env) ← evL C es env
    match ds with
    | d0 :: ds => if C.io f then do let (r, _) ← C.run f (d0 :: ds.map frz); .ok (r, env) else .bad
    | [] => .bad
def evA (C : Ctx) : E → Env → R (List D × Env)
  | .nil, env => .ok ([], env)
  | .cons (.bor i) es, env => do let _ ← getE env i; let (ds, env) ← evA C es env; let d ← getE env i; .ok (d :: ds, env)
  | .cons a es, env => do let (d, env) ← evE C a env; let (ds, env) ← evA C es env; .ok (d :: ds, env)
  | _, _ => .bad
def evL (C : Ctx) : E → Env → R (List D × Env)
  | .nil, env => .ok ([], env)
  | .cons a es, env => do let (d, env) ← evE C a env; let (ds, env) ← evL C es env; .ok (d :: ds, env)
  | _, _ => .bad
end

def getP : D → List Nat → Option D
  | d, [] => some d
  | .lst true xs, k :: ks => (xs[k]?).bind fun d => getP d ks
  | _, _ => none
/-- the list at a path of places below an owned list, one more item -/
def appP (y : D) : D → List Nat → Option D
  | .lst true xs, [] => if xs.length < line then some (.lst true (xs ++ [y])) else none
  | .lst true xs, k :: ks => (xs[k]?).bind fun d => (appP y d ks).map fun d' => .lst true (xs.set k d')
  | _, _ => none
def appAt (y : D) (k : Int) : D → Option D
  | .lst true xs => if flat y then (L2.ixN xs.length k).bind fun n => appP y (.lst true xs) [n] else none
  | _ => none
def evR (C : Ctx) (e : E) (env : Env) : R (D × Env) := match e with
  | .var i => do let d ← getE env i; .ok (d, env.set i none)
  | e => evE C e env
def evS (C : Ctx) : S → Env → R Out
  | .skip, env => .ok (.nx env)
  | .seq s r, env => do
    match ← evS C s env with
    | .nx env => evS C r env
    | o => .ok o
  | .asg i e, env => do let (d, env) ← evE C e env; let env ← setE C env i d; .ok (.nx env)
  | .asgT is e, env => do let (d, env) ← evE C e env; match d with
    | .tup ds => do let env ← setEs C env is ds; .ok (.nx env)
    | _ => .bad
  | .par is es, env => do let (ds, env) ← evL C es env; let env ← setEs C env is ds; .ok (.nx env)
  | .seti i ix e, env => do
    let _ ← getE env i
    let (d, env) ← evE C e env
    let (k, env) ← evE C ix env
    match ← getE env i, k with
    | .lst true xs, .int k => match L2.ixN xs.length k with
      | some j => .ok (.nx (env.set i (some (.lst true (xs.set j d)))))
      | none => .bad
    | _, _ => .bad
  | .dset i k e, env => do
    let _ ← getE env i
    let (d, env) ← evE C e env
    let (kd, env) ← evE C k env
    match dput (← getE env i) kd d with
    | some w' => .ok (.nx (env.set i (some w')))
    | none => .bad
  | .swp i ix jx a b, env => do
    let (d1, env) ← evE C a env
    let (d2, env) ← evE C b env
    if flat d1 && flat d2 then do
      let o ← (do
        let _ ← getE env i
        let (k, env) ← evE C ix env
        match ← getE env i, k with
        | .lst true xs, .int k => match L2.ixN xs.length k with
          | some j => .ok (Out.nx (env.set i (some (.lst true (xs.set j d1)))))
          | none => .bad
        | _, _ => .bad)
      match o with
      | .nx env => do
        let _ ← getE env i
        let (k, env) ← evE C jx env
        match ← getE env i, k with
        | .lst true xs, .int k => match L2.ixN xs.length k with
          | some j => .ok (Out.nx (env.set i (some (.lst true (xs.set j d2)))))
          | none => .bad
        | _, _ => .bad
      | o => .ok o
    else .bad
  | .aug i p e, env => do
    let _ ← getE env i
    let (d, env) ← evE C e env
    match ← getE env i, d with
    | .int a, .int b => do let r ← prim p [.int a, .int b]; let env ← setE C env i r; .ok (.nx env)
    | .lst true xs, .lst o ys => if p == .add && (o || noOwnL ys) && decide (xs.length + ys.length ≤ line) then .ok (.nx (env.set i (some (.lst true (xs ++ ys))))) else .bad
    | _, _ => .bad
  | .app i e, env => do
    let d0 ← getE env i
    if isListD d0 then do
      let (d, env) ← evE C e env
      match appP d (← getE env i) [] with
      | some d' => .ok (.nx (env.set i (some d')))
      | none => .bad
    else .bad
  | .appP i path y, env => do
    let d0 ← getE env i
    if flat y then match appP y d0 path with
      | some d' => .ok (.nx (env.set i (some d')))
      | none => .bad
    else .bad
  | .appX i ix j, env => do
    let _ ← getE env i
    let (k, env) ← evE C ix env
    let w ← getE env i
    let y ← getE env j
    match k with
    | .int k => (match appAt y k w with
      | some d' => .ok (.nx (env.set i (some d')))
      | none => .bad)
    | _ => .bad
  | .ins _ _ _, _ => .bad
  | .ex e, env => do let (_, env) ← evE C e env; .ok (.nx env)
  | .for_ ts k es b, env => do
    let (ds, env) ← evL C es env
    let xs ← items k ds
    forL (fun x env => do let env ← setT C env ts x; evS C b env) xs env
  | .whl c b, env => whileL (evE C c) (evS C b) C.fuel env
  | .ifs c a b, env => do let (d, env) ← evE C c env; if ← truth d then evS C a env else evS C b env
  | .ret e, env => do let (d, env) ← evR C e env; .ok (.ret d env)
  | .brk, env => .ok (.brk env)
  | .cnt, env => .ok (.ct env)

structure FnI where
  np : Nat
  ns : Nat
  io : Bool
  body : S
def fin (io : Bool) (d : D) (env : Env) : R (D × D) := if io then do let d1 ← getE env 0; .ok (d, d1) else .ok (d, .non)
def run (tbl : List FnI) (fuel : Nat) : Nat → Nat → List D → R (D × D)
  | 0, _, _ => .bad
  | n + 1, f, ds => match tbl[f]? with
    | none => .bad
    | some F => if ds.length == F.np then do
        match ← evS { fx := F.io, io := fun g => ((tbl[g]?).map (·.io)).getD false, run := run tbl fuel n, fuel := fuel } F.body (ds.map some ++ List.replicate (F.ns - F.np) none) with
        | .ret d env => fin F.io d env
        | .nx env => fin F.io .non env
        | _ => .bad
      else .bad
end KS
set_option linter.all false
set_option autoImplicit false
namespace KS
open PySem PySem.Spec PyProof.Rows L2

abbrev Pr := Addr → Prop
def isTF : HO → Prop
  | .tup _ => True
  | .frz _ _ => True
  | _ => False
/-- a list that is read: tracked and not owned -/
def ShL (H : Hp) (W : Pr) (a : Addr) (xs : List V) : Prop := H a = some (.lst xs) ∧ ¬ W a
/-- a dict, locked or not, that is no one's own -/
def ShD (H : Hp) (W : Pr) (a : Addr) (u : HO) : Prop := (H a = some u ∨ ∃ o, H a = some (.frz o u)) ∧ ¬ W a
/-- the data d stands at the value v; O bounds the owned cells, shared cells avoid W -/
inductive Tr (K : PySem.W.Frag) (H : Hp) (W : Pr) : D → V → Pr → Prop
  | non {O : Pr} : Tr K H W .non .non O
  | bl {b : Bool} {O : Pr} : Tr K H W (.bl b) (.bl b) O
  | int {i : Int} {O : Pr} : Tr K H W (.int i) (.int i) O
  | str {s : Str} {O : Pr} : Tr K H W (.str s) (.str s) O
  | scr {a : Addr} {ns : List Int} {O : Pr} : ((∃ o, H a = some (.frz o (.lst (ns.map V.int)))) ∨ ((∀ H2 : Hp, SqL K H2 a (ns.map V.int)))) → Tr K H W (.scr ns) (.ref a) O
  | lstS {a : Addr} {xs : List V} {ds : List D} {O : Pr} : ShL H W a xs → xs.length = ds.length →
      (∀ (i : Nat) (x : V) (d : D), xs[i]? = some x → ds[i]? = some d → Tr K H W d x (fun _ => False)) → Tr K H W (.lst false ds) (.ref a) O
  | lstO {a : Addr} {xs : List V} {ds : List D} {O : Pr} {Os : Nat → Pr} : H a = some (.lst xs) → O a → xs.length = ds.length →
      (∀ (i : Nat) (x : V) (d : D), xs[i]? = some x → ds[i]? = some d → Tr K H W d x (Os i)) →
      (∀ (i j : Nat) (p : Addr), i ≠ j → Os i p → ¬ Os j p) → (∀ (i : Nat) (p : Addr), Os i p → O p ∧ p ≠ a) → Tr K H W (.lst true ds) (.ref a) O
  | tup {a : Addr} {xs : List V} {ds : List D} {O : Pr} {Os : Nat → Pr} : H a = some (.tup xs) → xs.length = ds.length →
      (∀ (i : Nat) (x : V) (d : D), xs[i]? = some x → ds[i]? = some d → Tr K H W d x (Os i)) →
      (∀ (i j : Nat) (p : Addr), i ≠ j → Os i p → ¬ Os j p) → (∀ (i : Nat) (p : Addr), Os i p → O p) → Tr K H W (.tup ds) (.ref a) O
  | dctS {a : Addr} {xs : List (Key × V)} {ds : List (Key × D)} {O : Pr} : ShD H W a (.dK xs) → xs.length = ds.length → (∀ (i : Nat) (x : Key × V) (d : Key × D), xs[i]? = some x → ds[i]? = some d → x.1 = d.1) →
      (∀ (i : Nat) (x : Key × V) (d : Key × D), xs[i]? = some x → ds[i]? = some d → Tr K H W d.2 x.2 (fun _ => False)) → Tr K H W (.dct false ds) (.ref a) O
  | dctO {a : Addr} {xs : List (Key × V)} {ds : List (Key × D)} {O : Pr} : H a = some (.dK xs) → O a → xs.length = ds.length → (∀ (i : Nat) (x : Key × V) (d : Key × D), xs[i]? = some x → ds[i]? = some d → x.1 = d.1) →
      (∀ (i : Nat) (x : Key × V) (d : Key × D), xs[i]? = some x → ds[i]? = some d → Tr K H W d.2 x.2 (fun _ => False)) → Tr K H W (.dct true ds) (.ref a) O
  | dcuS {a : Addr} {xs : List (List Key × V)} {ds : List (List Key × D)} {O : Pr} : ShD H W a (.dT xs) → xs.length = ds.length → (∀ (i : Nat) (x : List Key × V) (d : List Key × D), xs[i]? = some x → ds[i]? = some d → x.1 = d.1) →
      (∀ (i : Nat) (x : List Key × V) (d : List Key × D), xs[i]? = some x → ds[i]? = some d → Tr K H W d.2 x.2 (fun _ => False)) → Tr K H W (.dcu false ds) (.ref a) O
  | dcuO {a : Addr} {xs : List (List Key × V)} {ds : List (List Key × D)} {O : Pr} : H a = some (.dT xs) → O a → xs.length = ds.length → (∀ (i : Nat) (x : List Key × V) (d : List Key × D), xs[i]? = some x → ds[i]? = some d → x.1 = d.1) →
      (∀ (i : Nat) (x : List Key × V) (d : List Key × D), xs[i]? = some x → ds[i]? = some d → Tr K H W d.2 x.2 (fun _ => False)) → Tr K H W (.dcu true ds) (.ref a) O

section
variable {K : PySem.W.Frag} {H H' : Hp} {W W' O O' M : Pr} {d : D} {v : V}

def Keep (H H' : Hp) (M : Pr) : Prop := ∀ a o, H a = some o → (M a → isTF o) → H' a = some o
theorem Keep.refl (H : Hp) (M : Pr) : Keep H H M := fun _ _ h _ => h
theorem Keep.of_same (h : Same H H') : Keep H H' M := fun a o e _ => h a o e
theorem Keep.tup (k : Keep H H' M) {a : Addr} {xs : List V} (h : H a = some (.tup xs)) : H' a = some (.tup xs) := k _ _ h fun _ => trivial
theorem Keep.shL (k : Keep H H' M) {a : Addr} {xs : List V} (h : ShL H W a xs) (hM : ∀ a, M a → W a) (hW : ∀ a, W' a → W a ∨ H a = none) : ShL H' W' a xs :=
  ⟨k _ _ h.1 fun z => absurd (hM a z) h.2, fun z => (hW a z).elim h.2 fun q => by rw [h.1] at q; cases q⟩
theorem Keep.shD (k : Keep H H' M) {a : Addr} {u : HO} (h : ShD H W a u) (hM : ∀ a, M a → W a) (hW : ∀ a, W' a → W a ∨ H a = none) : ShD H' W' a u := by
  have nm : ∀ {o : HO}, H a = some o → H' a = some o := fun q => k _ _ q fun z => absurd (hM a z) h.2
  refine ⟨h.1.imp nm fun ⟨o, q⟩ => ⟨o, nm q⟩, fun z => (hW a z).elim h.2 fun q => ?_⟩
  rcases h.1 with r | ⟨o, r⟩ <;> (rw [r] at q; cases q)
theorem Tr.mono (t : Tr K H W d v O) : ∀ {O' : Pr}, (∀ a, O a → O' a) → Tr K H W d v O' := by
  intro O' h
  cases t with
  | non => exact .non
  | bl => exact .bl
  | int => exact .int
  | str => exact .str
  | scr h => exact .scr h
  | lstS a c e => exact .lstS a c e
  | lstO a b c e f g => exact .lstO a (h _ b) c e f fun i p q => ⟨h _ (g i p q).1, (g i p q).2⟩
  | tup a c e f g => exact .tup a c e f fun i p q => h _ (g i p q)
  | dctS a c e f => exact .dctS a c e f
  | dctO a b c e f => exact .dctO a (h _ b) c e f
  | dcuS a c e f => exact .dcuS a c e f
  | dcuO a b c e f => exact .dcuO a (h _ b) c e f

theorem Tr.keep (t : Tr K H W d v O) (k : Keep H H' M) (hM : ∀ a, M a → W a) (hO : ∀ a, M a → ¬ O a) (hW : ∀ a, W' a → W a ∨ H a = none) : Tr K H' W' d v O := by
  induction t with
  | non => exact .non
  | bl => exact .bl
  | int => exact .int
  | str => exact .str
  | scr h => exact .scr (h.elim (fun ⟨o, q⟩ => .inl ⟨o, k _ _ q fun _ => trivial⟩) .inr)
  | lstS a c e ih => exact .lstS (k.shL a hM hW) c fun i x d h1 h2 => ih i x d h1 h2 fun _ _ z => z.elim
  | lstO a b c e f g ih =>
    refine .lstO (k _ _ a fun z => absurd b (hO _ z)) b c (fun i x d h1 h2 => ih i x d h1 h2 fun p m z => hO p m (g i p z).1) f g
  | tup a c e f g ih =>
    exact .tup (k.tup a) c (fun i x d h1 h2 => ih i x d h1 h2 fun p m z => hO p m (g i p z)) f g
  | dctS a c e f ih => exact .dctS (k.shD a hM hW) c e fun i x d h1 h2 => ih i x d h1 h2 fun _ _ z => z
  | dctO a b c e f ih => exact .dctO (k _ _ a fun z => absurd b (hO _ z)) b c e fun i x d h1 h2 => ih i x d h1 h2 fun _ _ z => z
  | dcuS a c e f ih => exact .dcuS (k.shD a hM hW) c e fun i x d h1 h2 => ih i x d h1 h2 fun _ _ z => z
  | dcuO a b c e f ih => exact .dcuO (k _ _ a fun z => absurd b (hO _ z)) b c e fun i x d h1 h2 => ih i x d h1 h2 fun _ _ z => z
theorem Tr.same (t : Tr K H W d v O) (k : Same H H') : Tr K H' W d v O := t.keep (M := fun _ => False) (Keep.of_same k) (fun _ z => z.elim) (fun _ z => z.elim) fun _ z => .inl z
theorem Tr.shrink (t : Tr K H W d v O) (hW : ∀ a, W' a → W a) : Tr K H W' d v O := t.keep (M := fun _ => False) (Keep.refl _ _) (fun _ z => z.elim) (fun _ z => z.elim) fun a z => .inl (hW a z)

theorem frzL_eq (xs : List D) : frzL xs = xs.map frz := by
  induction xs with
  | nil => rfl
  | cons x xs ih => simp [frzL, ih]
theorem getF {α β : Type} {f : α → β} {l : List α} {i : Nat} {b : β} (h : (l.map f)[i]? = some b) : ∃ a, l[i]? = some a ∧ f a = b := by
  rw [List.getElem?_map] at h
  cases e : l[i]? with
  | none => rw [e] at h; cases h
  | some a => rw [e] at h; exact ⟨a, rfl, Option.some.inj h⟩
theorem frzK_eq (xs : List (Key × D)) : frzK xs = xs.map fun p => (p.1, KS.frz p.2) := by
  induction xs with
  | nil => rfl
  | cons x xs ih => obtain ⟨k, d⟩ := x; simp [frzK, ih]
theorem frzU_eq (xs : List (List Key × D)) : frzU xs = xs.map fun p => (p.1, KS.frz p.2) := by
  induction xs with
  | nil => rfl
  | cons x xs ih => obtain ⟨k, d⟩ := x; simp [frzU, ih]
theorem Tr.frz (t : Tr K H W d v O) (h1 : ∀ a, W' a → W a ∧ ¬ O a) : ∀ {O' : Pr}, Tr K H W' (frz d) v O' := by
  induction t with
  | non => intro _; exact .non
  | bl => intro _; exact .bl
  | int => intro _; exact .int
  | str => intro _; exact .str
  | scr h => intro _; exact .scr h
  | lstS a c e ih =>
    intro O'
    unfold KS.frz
    rw [frzL_eq]
    refine .lstS ⟨a.1, fun q => a.2 (h1 _ q).1⟩ (by rw [List.length_map]; exact c) fun i x d q1 q2 => ?_
    obtain ⟨d', q3, rfl⟩ := getF q2
    exact ih i x d' q1 q3 fun p z => ⟨(h1 p z).1, fun q => q⟩
  | lstO a b c e f g ih =>
    intro O'
    unfold KS.frz
    rw [frzL_eq]
    refine .lstS ⟨a, fun z => (h1 _ z).2 b⟩ (by rw [List.length_map]; exact c) fun i x d q1 q2 => ?_
    obtain ⟨d', q3, rfl⟩ := getF q2
    exact ih i x d' q1 q3 fun p z => ⟨(h1 p z).1, fun q => (h1 p z).2 (g i p q).1⟩
  | tup a c e f g ih =>
    intro O'
    unfold KS.frz
    rw [frzL_eq]
    refine .tup (Os := fun _ _ => False) a (by rw [List.length_map]; exact c) (fun i x d q1 q2 => ?_) (fun _ _ _ _ z => z.elim) fun _ _ z => z.elim
    obtain ⟨d', q3, rfl⟩ := getF q2
    exact ih i x d' q1 q3 fun p z => ⟨(h1 p z).1, fun q => (h1 p z).2 (g i p q)⟩
  | dctS a c e f ih =>
    intro O'
    unfold KS.frz
    rw [frzK_eq]
    refine .dctS ⟨a.1, fun q => a.2 (h1 _ q).1⟩ (by rw [List.length_map]; exact c) (fun i x d q1 q2 => ?_) fun i x d q1 q2 => ?_
    · obtain ⟨d', q3, rfl⟩ := getF q2
      exact e i x d' q1 q3
    · obtain ⟨d', q3, rfl⟩ := getF q2
      exact ih i x d' q1 q3 fun p z => ⟨(h1 p z).1, fun q => q⟩
  | dctO a b c e f ih =>
    intro O'
    unfold KS.frz
    rw [frzK_eq]
    refine .dctS ⟨.inl a, fun z => (h1 _ z).2 b⟩ (by rw [List.length_map]; exact c) (fun i x d q1 q2 => ?_) fun i x d q1 q2 => ?_
    · obtain ⟨d', q3, rfl⟩ := getF q2
      exact e i x d' q1 q3
    · obtain ⟨d', q3, rfl⟩ := getF q2
      exact ih i x d' q1 q3 fun p z => ⟨(h1 p z).1, fun q => q⟩
  | dcuS a c e f ih =>
    intro O'
    unfold KS.frz
    rw [frzU_eq]
    refine .dcuS ⟨a.1, fun q => a.2 (h1 _ q).1⟩ (by rw [List.length_map]; exact c) (fun i x d q1 q2 => ?_) fun i x d q1 q2 => ?_
    · obtain ⟨d', q3, rfl⟩ := getF q2
      exact e i x d' q1 q3
    · obtain ⟨d', q3, rfl⟩ := getF q2
      exact ih i x d' q1 q3 fun p z => ⟨(h1 p z).1, fun q => q⟩
  | dcuO a b c e f ih =>
    intro O'
    unfold KS.frz
    rw [frzU_eq]
    refine .dcuS ⟨.inl a, fun z => (h1 _ z).2 b⟩ (by rw [List.length_map]; exact c) (fun i x d q1 q2 => ?_) fun i x d q1 q2 => ?_
    · obtain ⟨d', q3, rfl⟩ := getF q2
      exact e i x d' q1 q3
    · obtain ⟨d', q3, rfl⟩ := getF q2
      exact ih i x d' q1 q3 fun p z => ⟨(h1 p z).1, fun q => q⟩
theorem noOwnL_get : ∀ {xs : List D} {i : Nat} {d : D}, noOwnL xs = true → xs[i]? = some d → noOwn d = true
  | x :: xs, 0, d, h, e => by
    simp only [noOwnL, Bool.and_eq_true] at h
    simp at e; subst e; exact h.1
  | x :: xs, i + 1, d, h, e => by
    simp only [noOwnL, Bool.and_eq_true] at h
    exact noOwnL_get h.2 (by simpa using e)
theorem noOwnK_get : ∀ {xs : List (Key × D)} {i : Nat} {d : Key × D}, noOwnK xs = true → xs[i]? = some d → noOwn d.2 = true
  | (k, x) :: xs, 0, d, h, e => by
    simp only [noOwnK, Bool.and_eq_true] at h
    simp at e; subst e; exact h.1
  | (k, x) :: xs, i + 1, d, h, e => by
    simp only [noOwnK, Bool.and_eq_true] at h
    exact noOwnK_get h.2 (by simpa using e)
theorem noOwnU_get : ∀ {xs : List (List Key × D)} {i : Nat} {d : List Key × D}, noOwnU xs = true → xs[i]? = some d → noOwn d.2 = true
  | (k, x) :: xs, 0, d, h, e => by
    simp only [noOwnU, Bool.and_eq_true] at h
    simp at e; subst e; exact h.1
  | (k, x) :: xs, i + 1, d, h, e => by
    simp only [noOwnU, Bool.and_eq_true] at h
    exact noOwnU_get h.2 (by simpa using e)
theorem isFreshK_get : ∀ {xs : List (Key × D)} {i : Nat} {d : Key × D}, isFreshK xs = true → xs[i]? = some d → isFresh d.2 = true
  | (k, x) :: xs, 0, d, h, e => by
    simp only [isFreshK, Bool.and_eq_true] at h
    simp at e; subst e; exact h.1
  | (k, x) :: xs, i + 1, d, h, e => by
    simp only [isFreshK, Bool.and_eq_true] at h
    exact isFreshK_get h.2 (by simpa using e)
theorem isFreshU_get : ∀ {xs : List (List Key × D)} {i : Nat} {d : List Key × D}, isFreshU xs = true → xs[i]? = some d → isFresh d.2 = true
  | (k, x) :: xs, 0, d, h, e => by
    simp only [isFreshU, Bool.and_eq_true] at h
    simp at e; subst e; exact h.1
  | (k, x) :: xs, i + 1, d, h, e => by
    simp only [isFreshU, Bool.and_eq_true] at h
    exact isFreshU_get h.2 (by simpa using e)
theorem Tr.noOwn (t : Tr K H W d v O) : KS.noOwn d = true → ∀ {O' : Pr}, Tr K H W d v O' := by
  induction t with
  | non => intro _ _; exact .non
  | bl => intro _ _; exact .bl
  | int => intro _ _; exact .int
  | str => intro _ _; exact .str
  | scr h => intro _ _; exact .scr h
  | lstS a c e ih => intro _ _; exact .lstS a c e
  | lstO a b c e f g ih => intro h; simp [KS.noOwn] at h
  | tup a c e f g ih =>
    intro h O'
    simp only [KS.noOwn] at h
    exact .tup (Os := fun _ _ => False) a c (fun i x d q1 q2 => ih i x d q1 q2 (noOwnL_get h q2)) (fun _ _ _ _ z => z.elim) fun _ _ z => z.elim
  | dctS a c e f ih => intro _ _; exact .dctS a c e f
  | dctO a b c e f ih => intro h; simp [KS.noOwn] at h
  | dcuS a c e f ih => intro _ _; exact .dcuS a c e f
  | dcuO a b c e f ih => intro h; simp [KS.noOwn] at h
theorem isFreshL_get : ∀ {xs : List D} {i : Nat} {d : D}, isFreshL xs = true → xs[i]? = some d → isFresh d = true
  | x :: xs, 0, d, h, e => by
    simp only [isFreshL, Bool.and_eq_true] at h
    simp at e; subst e; exact h.1
  | x :: xs, i + 1, d, h, e => by
    simp only [isFreshL, Bool.and_eq_true] at h
    exact isFreshL_get h.2 (by simpa using e)
/-- a fresh thing leans on no shared cell -/
theorem Tr.fresh (t : Tr K H W d v O) : isFresh d = true → Tr K H W' d v O := by
  induction t with
  | non => intro _; exact .non
  | bl => intro _; exact .bl
  | int => intro _; exact .int
  | str => intro _; exact .str
  | scr h => intro _; exact .scr h
  | lstS a c e ih => intro h; simp [isFresh] at h
  | lstO a b c e f g ih =>
    intro h
    simp only [isFresh, Bool.and_eq_true] at h
    exact .lstO a b c (fun i x d q1 q2 => ih i x d q1 q2 (isFreshL_get h.2 q2)) f g
  | tup a c e f g ih =>
    intro h
    simp only [isFresh] at h
    exact .tup a c (fun i x d q1 q2 => ih i x d q1 q2 (isFreshL_get h q2)) f g
  | dctS a c e f ih => intro h; simp [isFresh] at h
  | dctO a b c e f ih =>
    intro h
    simp only [isFresh, Bool.and_eq_true] at h
    exact .dctO a b c e fun i x d q1 q2 => ih i x d q1 q2 (isFreshK_get h.2 q2)
  | dcuS a c e f ih => intro h; simp [isFresh] at h
  | dcuO a b c e f ih =>
    intro h
    simp only [isFresh, Bool.and_eq_true] at h
    exact .dcuO a b c e fun i x d q1 q2 => ih i x d q1 q2 (isFreshU_get h.2 q2)
end

/-! ### the state -/
def EOs (Os : Nat → Pr) : Pr := fun a => ∃ j, Os j a
def EW (W0 : Pr) (Os : Nat → Pr) : Pr := fun a => W0 a ∨ ∃ j, Os j a
def orP (A B : Pr) : Pr := fun a => A a ∨ B a
structure EnvOk (K : PySem.W.Frag) (H : Hp) (W0 : Pr) (σ : L2.St) (env : Env) (Os : Nat → Pr) : Prop where
  len : σ.length = env.length
  tr : ∀ (i : Nat) (d : D), env[i]? = some (some d) → ∃ v, σ[i]? = some (some v) ∧ Tr K H (EW W0 Os) d v (Os i)
  dj : ∀ (i j : Nat) (a : Addr), i ≠ j → Os i a → ¬ Os j a
  out : ∀ (i : Nat) (a : Addr), Os i a → ¬ W0 a
  lv : ∀ (i : Nat) (a : Addr), Os i a → H a ≠ none
  lv0 : ∀ a, W0 a → H a ≠ none
/-- from one state to a later one: what was tracked and not owned stands; what is owned later was owned or is new -/
structure Post (H : Hp) (Os : Nat → Pr) (H' : Hp) (Os' : Nat → Pr) (O : Pr) : Prop where
  keep : Keep H H' (EOs Os)
  sub : ∀ a, EOs Os' a ∨ O a → EOs Os a ∨ H a = none
section
variable {K : PySem.W.Frag} {H H' H1 H2 : Hp} {W0 W O O1 O2 M : Pr} {σ σ' : L2.St} {env env' : Env} {Os Os' Os1 Os2 : Nat → Pr} {d : D} {v : V} {i : Nat}
theorem Post.refl : Post H Os H Os (fun _ => False) := ⟨Keep.refl _ _, fun a z => z.elim .inl fun q => q.elim⟩
theorem Post.live (p : Post H Os H' Os' O) {a : Addr} (h : H a ≠ none) : H' a ≠ none ∨ EOs Os a := by
  cases e : H a with
  | none => exact absurd e h
  | some o =>
    by_cases z : EOs Os a
    · exact .inr z
    · exact .inl (by rw [p.keep a o e fun q => absurd q z]; simp)
theorem Post.trans (p : Post H Os H1 Os1 O1) (q : Post H1 Os1 H2 Os2 O2) (hO : ∀ a, O a → EOs Os1 a ∨ O1 a ∨ O2 a) (l : ∀ a, EOs Os1 a ∨ O1 a → EOs Os a ∨ H a = none) : Post H Os H2 Os2 O := by
  refine ⟨fun a o e m => ?_, fun a z => ?_⟩
  · have e1 := p.keep a o e m
    refine q.keep a o e1 fun z => ?_
    rcases p.sub a (.inl z) with r | r
    · exact m r
    · rw [e] at r; cases r
  · have key : EOs Os1 a ∨ O1 a ∨ H1 a = none → EOs Os a ∨ H a = none := by
      rintro (z | z | z)
      · exact p.sub a (.inl z)
      · exact p.sub a (.inr z)
      · by_cases r : EOs Os a
        · exact .inl r
        · right
          cases e : H a with
          | none => rfl
          | some o => rw [p.keep a o e fun q => absurd q r] at z; cases z
    rcases z with z | z
    · rcases q.sub a (.inl z) with r | r
      · exact key (.inl r)
      · exact key (.inr (.inr r))
    · rcases hO a z with r | r | r
      · exact key (.inl r)
      · exact key (.inr (.inl r))
      · rcases q.sub a (.inr r) with r | r
        · exact key (.inl r)
        · exact key (.inr (.inr r))

theorem EnvOk.shrink (e : EnvOk K H W σ env Os) (h : ∀ a, W0 a → W a) : EnvOk K H W0 σ env Os where
  len := e.len
  tr := fun i d q => let ⟨v, q1, q2⟩ := e.tr i d q; ⟨v, q1, q2.shrink fun a z => z.elim (fun z => .inl (h a z)) .inr⟩
  dj := e.dj
  out := fun i a q z => e.out i a q (h a z)
  lv := e.lv
  lv0 := fun a z => e.lv0 a (h a z)
theorem EnvOk.same (e : EnvOk K H W0 σ env Os) (k : Same H H') : EnvOk K H' W0 σ env Os where
  len := e.len
  tr := fun i d q => let ⟨v, q1, q2⟩ := e.tr i d q; ⟨v, q1, q2.same k⟩
  dj := e.dj
  out := e.out
  lv := fun i a q => by
    cases z : H a with
    | none => exact absurd z (e.lv i a q)
    | some o => rw [k a o z]; simp
  lv0 := fun a q => by
    cases z : H a with
    | none => exact absurd z (e.lv0 a q)
    | some o => rw [k a o z]; simp
def setO (Os : Nat → Pr) (i : Nat) (O : Pr) : Nat → Pr := fun j => if j = i then O else Os j
theorem setO_same : setO Os i O i = O := by unfold setO; rw [if_pos rfl]
theorem setO_ne {j : Nat} (h : j ≠ i) : setO Os i O j = Os j := by unfold setO; rw [if_neg h]
/-- the pending thing goes into a slot -/
theorem EnvOk.set (e : EnvOk K H (orP W0 O) σ env Os) (t : Tr K H (EW (orP W0 O) Os) d v O) (hO : ∀ a, O a → ¬ W0 a) : EnvOk K H W0 (σ.set i (some v)) (env.set i (some d)) (setO Os i O) := by
  have hw : ∀ a, EW W0 (setO Os i O) a → EW (orP W0 O) Os a := by
    rintro a (z | ⟨j, z⟩)
    · exact .inl (.inl z)
    · by_cases hj : j = i
      · subst hj; rw [setO_same] at z; exact .inl (.inr z)
      · rw [setO_ne hj] at z; exact .inr ⟨j, z⟩
  refine ⟨by simp [e.len], fun j d' q => ?_, fun j k a hjk q1 q2 => ?_, fun j a q z => ?_, fun j a q => ?_, fun a z => e.lv0 a (.inl z)⟩
  · by_cases hj : j = i
    · subst hj
      have hl : j < env.length := by have := (List.getElem?_eq_some_iff.mp q).1; simpa using this
      rw [List.getElem?_set_self hl] at q
      cases q
      refine ⟨v, List.getElem?_set_self (by rw [e.len]; exact hl), ?_⟩
      rw [setO_same]
      exact t.shrink hw
    · rw [List.getElem?_set_ne (Ne.symm hj)] at q
      obtain ⟨v', q1, q2⟩ := e.tr j d' q
      refine ⟨v', by rw [List.getElem?_set_ne (Ne.symm hj)]; exact q1, ?_⟩
      rw [setO_ne hj]
      exact q2.shrink hw
  · by_cases hj : j = i
    · subst hj
      rw [setO_same] at q1
      rw [setO_ne (Ne.symm hjk)] at q2
      exact e.out k a q2 (.inr q1)
    · rw [setO_ne hj] at q1
      by_cases hk : k = i
      · subst hk
        rw [setO_same] at q2
        exact e.out j a q1 (.inr q2)
      · rw [setO_ne hk] at q2
        exact e.dj j k a hjk q1 q2
  · by_cases hj : j = i
    · subst hj; rw [setO_same] at q; exact hO a q z
    · rw [setO_ne hj] at q; exact e.out j a q (.inl z)
  · by_cases hj : j = i
    · subst hj; rw [setO_same] at q; exact e.lv0 a (.inr q)
    · rw [setO_ne hj] at q; exact e.lv j a q
/-- a slot's thing is changed in place: only its own cells are written -/
theorem EnvOk.change (e : EnvOk K H W0 σ env Os) (hv : σ[i]? = some (some v)) (k : Keep H H' (Os i)) (hl : ∀ a, H a ≠ none → H' a ≠ none) (hO : ∀ a, O a → Os i a ∨ H a = none) (hO2 : ∀ a, O a → H' a ≠ none)
    (t : Tr K H' (EW W0 (setO Os i O)) d v O) : EnvOk K H' W0 σ (env.set i (some d)) (setO Os i O) := by
  have hw : ∀ a, EW W0 (setO Os i O) a → EW W0 Os a ∨ H a = none := by
    rintro a (z | ⟨j, z⟩)
    · exact .inl (.inl z)
    · by_cases hj : j = i
      · subst hj; rw [setO_same] at z
        rcases hO a z with r | r
        · exact .inl (.inr ⟨j, r⟩)
        · exact .inr r
      · rw [setO_ne hj] at z; exact .inl (.inr ⟨j, z⟩)
  refine ⟨by simp [e.len], fun j d' q => ?_, fun j k' a hjk q1 q2 => ?_, fun j a q z => ?_, fun j a q => ?_, fun a z => hl a (e.lv0 a z)⟩
  · by_cases hj : j = i
    · subst hj
      have hl : j < env.length := by have := (List.getElem?_eq_some_iff.mp q).1; simpa using this
      rw [List.getElem?_set_self hl] at q
      cases q
      refine ⟨v, hv, ?_⟩
      rw [setO_same]
      exact t
    · rw [List.getElem?_set_ne (Ne.symm hj)] at q
      obtain ⟨v', q1, q2⟩ := e.tr j d' q
      refine ⟨v', q1, ?_⟩
      rw [setO_ne hj]
      exact q2.keep k (fun a z => .inr ⟨i, z⟩) (fun a z q => e.dj i j a (Ne.symm hj) z q) hw
  · by_cases hj : j = i
    · subst hj
      rw [setO_same] at q1
      rw [setO_ne (Ne.symm hjk)] at q2
      rcases hO a q1 with r | r
      · exact e.dj j k' a hjk r q2
      · exact e.lv k' a q2 r
    · rw [setO_ne hj] at q1
      by_cases hk : k' = i
      · subst hk
        rw [setO_same] at q2
        rcases hO a q2 with r | r
        · exact e.dj k' j a (Ne.symm hjk) r q1
        · exact e.lv j a q1 r
      · rw [setO_ne hk] at q2
        exact e.dj j k' a hjk q1 q2
  · by_cases hj : j = i
    · subst hj; rw [setO_same] at q
      rcases hO a q with r | r
      · exact e.out j a r z
      · exact e.lv0 a z r
    · rw [setO_ne hj] at q; exact e.out j a q z
  · by_cases hj : j = i
    · subst hj; rw [setO_same] at q; exact hO2 a q
    · rw [setO_ne hj] at q; exact hl a (e.lv j a q)
/-- fewer is known -/
theorem EnvOk.forget (e : EnvOk K H W0 σ env Os) (hl : σ'.length = env'.length) (h : ∀ (j : Nat) (d : D), env'[j]? = some (some d) → env[j]? = some (some d) ∧ σ'[j]? = σ[j]?) : EnvOk K H W0 σ' env' Os :=
  ⟨hl, fun j d q => let ⟨q1, q2⟩ := h j d q; let ⟨v, r1, r2⟩ := e.tr j d q1; ⟨v, by rw [q2]; exact r1, r2⟩, e.dj, e.out, e.lv, e.lv0⟩
theorem EnvOk.frzAt (e : EnvOk K H W0 σ env Os) (i : Nat) : EnvOk K H W0 σ (frzAt env i) (setO Os i fun _ => False) := by
  have hw : ∀ a, EW W0 (setO Os i fun _ => False) a → EW W0 Os a ∧ ¬ Os i a := by
    rintro a (z | ⟨j, z⟩)
    · exact ⟨.inl z, fun q => e.out i a q z⟩
    · by_cases hj : j = i
      · subst hj; rw [setO_same] at z; exact z.elim
      · rw [setO_ne hj] at z; exact ⟨.inr ⟨j, z⟩, fun q => e.dj j i a hj z q⟩
  refine ⟨?_, fun j d' q => ?_, fun j k a hjk q1 q2 => ?_, fun j a q z => ?_, fun j a q => ?_, e.lv0⟩
  · unfold KS.frzAt; split
    · rw [List.length_set]; exact e.len
    · exact e.len
  · by_cases hj : j = i
    · subst hj
      rw [setO_same]
      unfold KS.frzAt at q
      split at q
      · rename_i d hd
        have hl : j < env.length := (List.getElem?_eq_some_iff.mp hd).1
        rw [List.getElem?_set_self hl] at q
        cases q
        obtain ⟨v, r1, r2⟩ := e.tr j d hd
        exact ⟨v, r1, r2.frz hw⟩
      · rename_i hn
        exact absurd q (hn d')
    · have q' : env[j]? = some (some d') := by
        unfold KS.frzAt at q
        split at q
        · rw [List.getElem?_set_ne (Ne.symm hj)] at q; exact q
        · exact q
      obtain ⟨v, r1, r2⟩ := e.tr j d' q'
      refine ⟨v, r1, ?_⟩
      rw [setO_ne hj]
      exact r2.shrink fun a z => (hw a z).1
  · have s : ∀ {j : Nat} {a : Addr}, setO Os i (fun _ => False) j a → Os j a := fun {j a} z => by
      by_cases hj : j = i
      · subst hj; rw [setO_same] at z; exact z.elim
      · rw [setO_ne hj] at z; exact z
    exact e.dj j k a hjk (s q1) (s q2)
  · by_cases hj : j = i
    · subst hj; rw [setO_same] at q; exact q.elim
    · rw [setO_ne hj] at q; exact e.out j a q z
  · by_cases hj : j = i
    · subst hj; rw [setO_same] at q; exact q.elim
    · rw [setO_ne hj] at q; exact e.lv j a q
end
end KS
set_option linter.all false
set_option autoImplicit false
namespace KS
open PySem PySem.Spec PyProof.Rows L2

/-- what the readings lean on: the written part, the callees, how an exception lies, what is wanted of it -/
structure Sg where
  K : PySem.W.Frag
  C : Ctx
  XO : Str → List D → Pr → Value → Option Addr → Hp → Prop
  anti : ∀ (c : Str) (fs : List D) (W W' : Pr) (cls : Value) (dd : Option Addr) (H : Hp), (∀ a, W' a → W a) → XO c fs W cls dd H → XO c fs W' cls dd H
  Ex : XK

def Run (G : Sg) (W0 : Pr) (Os : Nat → Pr) (H : Hp) {α : Type} (r : R α) (k : α → Prop) : Prop := match r with
  | .ok a => k a
  | .exc c fs => ∀ cls dd H', Keep H H' (EOs Os) → G.XO c fs W0 cls dd H' → G.Ex cls dd H'
  | .bad => False
section
variable {G : Sg} {W0 W1 O O1 : Pr} {Os Os1 Os' : Nat → Pr} {H H1 H' : Hp} {α β : Type} {r : R α} {k k' : α → Prop}
theorem Run.bind {f : α → R β} {q : β → Prop} (h : Run G W0 Os H (r >>= f) q) : Run G W0 Os H r fun a => Run G W0 Os H (f a) q := by
  cases r with
  | ok a => exact h
  | exc c fs => exact h
  | bad => exact h
theorem Run.mono (h : Run G W0 Os H r k) (hk : ∀ a, r = .ok a → k a → k' a) : Run G W0 Os H r k' := by
  cases r with
  | ok a => exact hk a rfl h
  | exc c fs => exact h
  | bad => exact h
theorem Run.back (h : Run G W0 Os H r k) (p : Post H Os H1 Os1 O1) (hw : ∀ a, W0 a → W1 a) (hk : ∀ a, r = .ok a → k a → k' a) : Run G W1 Os1 H1 r k' := by
  cases r with
  | ok a => exact hk a rfl h
  | exc c fs =>
    intro cls dd H2 kp xo
    refine h cls dd H2 (fun a o e m => kp a o (p.keep a o e m) fun z => ?_) (G.anti _ _ _ _ _ _ _ hw xo)
    rcases p.sub a (.inl z) with q | q
    · exact m q
    · rw [e] at q; cases q
  | bad => exact h.elim
theorem Run.okE {a : α} (h : Run G W0 Os H (.ok a) k) : k a := h
theorem Run.guard {b : Bool} {x : R α} (h : Run G W0 Os H (if b = true then x else .bad) k) : b = true ∧ Run G W0 Os H x k := by
  cases b with
  | true => exact ⟨rfl, h⟩
  | false => exact h.elim
end

/-- an expression's end -/
def Res (G : Sg) (W0 : Pr) (Os : Nat → Pr) (H : Hp) (σ : L2.St) (env' : Env) (d : D) (v : V) (H' : Hp) : Prop :=
  ∃ (Os' : Nat → Pr) (O : Pr), EnvOk G.K H' (orP W0 O) σ env' Os' ∧ (∀ a, O a → ¬ W0 a) ∧ Post H Os H' Os' O ∧ Tr G.K H' (EW (orP W0 O) Os') d v O
def tE (G : Sg) (A : E) : TE := fun σ H Q => ∃ (W0 : Pr) (Os : Nat → Pr) (env : Env), EnvOk G.K H W0 σ env Os ∧
  Run G W0 Os H (evE G.C A env) fun p => ∀ v H', Res G W0 Os H σ p.2 p.1 v H' → Q v H'
/-- an argument list's end: names may be lent -/
def ResA (G : Sg) (W0 : Pr) (Os : Nat → Pr) (H : Hp) (σ : L2.St) (ln : List Nat) (env' : Env) (ds : List D) (vs : List V) (H' : Hp) : Prop :=
  ∃ (Os' : Nat → Pr) (O : Pr), EnvOk G.K H' (orP W0 O) σ env' Os' ∧ (∀ a, O a → ¬ W0 a) ∧ Post H Os H' Os' O ∧ vs.length = ds.length ∧
    ∀ (k : Nat) (d : D) (v : V), ds[k]? = some d → vs[k]? = some v → ∃ Ok : Pr, Tr G.K H' (EW (orP W0 O) Os') d v Ok ∧ ∀ a, Ok a → O a ∨ ∃ j, j ∈ ln ∧ Os' j a
def tA (G : Sg) (A : E) : TA := fun σ H Q => ∃ (W0 : Pr) (Os : Nat → Pr) (env : Env), EnvOk G.K H W0 σ env Os ∧
  Run G W0 Os H (evA G.C A env) fun p => ∀ vs H', ResA G W0 Os H σ (lent A) p.2 p.1 vs H' → Q vs H'
/-- a list of things that are kept: nothing is lent -/
def ResL (G : Sg) (W0 : Pr) (Os : Nat → Pr) (H : Hp) (σ : L2.St) (env' : Env) (ds : List D) (vs : List V) (H' : Hp) : Prop :=
  ∃ (Os' : Nat → Pr) (O : Pr) (Ok : Nat → Pr), EnvOk G.K H' (orP W0 O) σ env' Os' ∧ (∀ a, O a → ¬ W0 a) ∧ Post H Os H' Os' O ∧ vs.length = ds.length ∧
    (∀ (k : Nat) (d : D) (v : V), ds[k]? = some d → vs[k]? = some v → Tr G.K H' (EW (orP W0 O) Os') d v (Ok k)) ∧
    (∀ (i j : Nat) (a : Addr), i ≠ j → Ok i a → ¬ Ok j a) ∧ ∀ (k : Nat) (a : Addr), Ok k a → O a
def tL (G : Sg) (A : E) : TA := fun σ H Q => ∃ (W0 : Pr) (Os : Nat → Pr) (env : Env), EnvOk G.K H W0 σ env Os ∧
  Run G W0 Os H (evL G.C A env) fun p => ∀ vs H', ResL G W0 Os H σ p.2 p.1 vs H' → Q vs H'
/-- an operand -/
def tO (G : Sg) : E → TE
  | .bor i => tVar i
  | A => tE G A
def isBor : E → Bool
  | .bor _ => true
  | _ => false

section
variable {G : Sg} {W0 W1 O O1 : Pr} {Os Os1 Os' : Nat → Pr} {H H1 H' : Hp} {σ : L2.St} {env env1 env' : Env} {A B : E} {Q Q' : VK} {d : D} {v : V}
theorem getE_ok {i : Nat} (h : getE env i = .ok d) : env[i]? = some (some d) := by
  unfold getE at h
  split at h
  · rename_i q; rw [q]; cases h; rfl
  · cases h
theorem tE_mono (h : tE G A σ H Q) (hq : ∀ v H', Q v H' → Q' v H') : tE G A σ H Q' := by
  obtain ⟨W0, Os, env, e, r⟩ := h
  exact ⟨W0, Os, env, e, r.mono fun p _ q v H' z => hq v H' (q v H' z)⟩
theorem tO_mono (h : tO G A σ H Q) (hq : ∀ v H', Q v H' → Q' v H') : tO G A σ H Q' := by
  cases A with
  | bor i =>
    obtain ⟨v, e, q⟩ := h
    exact ⟨v, e, hq _ _ q⟩
  | _ => exact tE_mono (G := G) h hq
theorem tA_mono {QA QA' : List V → Hp → Prop} (h : tA G A σ H QA) (hq : ∀ v H', QA v H' → QA' v H') : tA G A σ H QA' := by
  obtain ⟨W0, Os, env, e, r⟩ := h
  exact ⟨W0, Os, env, e, r.mono fun p _ q v H' z => hq v H' (q v H' z)⟩
/-- a pending thing stands through a later step -/
theorem Tr.later {W2 O2 : Pr} {Os2 : Nat → Pr} {H2 : Hp} {Ok : Pr} (t : Tr G.K H1 (EW W1 Os1) d v Ok) (p : Post H1 Os1 H2 Os2 O2) (hO : ∀ a, EOs Os1 a → ¬ Ok a) (hw : ∀ a, W2 a → W1 a ∨ O2 a) : Tr G.K H2 (EW W2 Os2) d v Ok := by
  refine t.keep p.keep (fun a z => .inr z) hO fun a z => ?_
  have key : EOs Os2 a ∨ O2 a → EW W1 Os1 a ∨ H1 a = none := fun z => (p.sub a z).elim (fun q => .inl (.inr q)) .inr
  rcases z with z | z
  · rcases hw a z with z | z
    · exact .inl (.inl z)
    · exact key (.inr z)
  · exact key (.inl z)
theorem EnvOk.reassoc {K : PySem.W.Frag} {O2 : Pr} (e : EnvOk K H (orP (orP W0 O) O2) σ env Os) : EnvOk K H (orP W0 (orP O O2)) σ env Os :=
  e.shrink fun a z => z.elim (fun z => .inl (.inl z)) fun z => z.elim (fun z => .inl (.inr z)) .inr
theorem tA_nil {QA : List V → Hp → Prop} (h : tA G .nil σ H QA) : QA [] H := by
  obtain ⟨W0, Os, env, e, r⟩ := h
  refine r [] H ⟨Os, fun _ => False, e.shrink fun a z => z.elim id fun z => z.elim, fun _ z => z.elim, Post.refl, rfl, fun k d v q => ?_⟩
  simp at q
theorem evA_cons (C : Ctx) {a es : E} (h : isBor a = false) (env : Env) : evA C (.cons a es) env = (evE C a env >>= fun p => evA C es p.2 >>= fun q => .ok (p.1 :: q.1, q.2)) := by
  cases a <;> first | rfl | (simp [isBor] at h)
theorem evA_bor (C : Ctx) {i : Nat} {es : E} (env : Env) : evA C (.cons (.bor i) es) env = (getE env i >>= fun _ => evA C es env >>= fun q => getE q.2 i >>= fun d => .ok (d :: q.1, q.2)) := rfl
theorem lent_cons {a es : E} (h : isBor a = false) : lent (.cons a es) = lent es := by
  cases a <;> first | rfl | (simp [isBor] at h)
theorem tO_ne {a : E} (h : isBor a = false) : tO G a = tE G a := by
  cases a <;> first | rfl | (simp [isBor] at h)
theorem tA_cons {a es : E} {QA : List V → Hp → Prop} (h : tA G (.cons a es) σ H QA) : tO G a σ H fun x H1 => tA G es σ H1 fun xs H2 => QA (x :: xs) H2 := by
  obtain ⟨W0, Os, env, e, r⟩ := h
  cases hb : isBor a with
  | true =>
    cases a <;> first | (simp [isBor] at hb; done) | skip
    rename_i i
    rw [evA_bor] at r
    have r1 := r.bind
    cases g : getE env i with
    | exc c fs => unfold getE at g; split at g <;> cases g
    | bad => rw [g] at r1; exact r1.elim
    | ok d0 =>
      rw [g] at r1
      obtain ⟨v, hv, _⟩ := e.tr i d0 (getE_ok g)
      refine ⟨v, hv, W0, Os, env, e, (Run.bind (Run.okE (G := G) (W0 := W0) (Os := Os) (H := H) r1)).mono fun p hp q vs H' ⟨Os', O, e', dj, po, hl, ht⟩ => ?_⟩
      have q2 := Run.bind q
      cases g2 : getE p.2 i with
      | exc c fs => unfold getE at g2; split at g2 <;> cases g2
      | bad => rw [g2] at q2; exact q2.elim
      | ok d1 =>
        rw [g2] at q2
        refine q2 (v :: vs) H' ⟨Os', O, e', dj, po, by simp [hl], fun k d v' h1 h2 => ?_⟩
        cases k with
        | zero =>
          simp at h1 h2; subst h1; subst h2
          obtain ⟨v2, hv2, t2⟩ := e'.tr i d1 (getE_ok g2)
          rw [hv] at hv2
          cases hv2
          exact ⟨Os' i, t2, fun a z => .inr ⟨i, List.mem_cons_self, z⟩⟩
        | succ k =>
          obtain ⟨Ok, t, l⟩ := ht k d v' (by simpa using h1) (by simpa using h2)
          exact ⟨Ok, t, fun a z => (l a z).elim .inl fun ⟨j, hj, z⟩ => .inr ⟨j, List.mem_cons_of_mem _ hj, z⟩⟩
  | false =>
    rw [evA_cons _ hb] at r
    rw [tO_ne hb]
    refine ⟨W0, Os, env, e, r.bind.mono fun p hp q v H1 ⟨Os1, O1, e1, dj1, po1, t1⟩ => ⟨orP W0 O1, Os1, p.2, e1, (Run.bind q).back po1 (fun a z => .inl z) fun p2 hp2 q2 vs H2 ⟨Os2, O2, e2, dj2, po2, hl, ht⟩ => ?_⟩⟩
    refine Run.okE (G := G) (W0 := W0) (Os := Os) (H := H) q2 (v :: vs) H2 ⟨Os2, orP O1 O2, e2.reassoc, fun a z => z.elim (dj1 a) fun z q => dj2 a z (.inl q), ?_, by simp [hl], fun k d v' h1 h2 => ?_⟩
    · refine po1.trans po2 (fun a z => z.elim (fun z => .inr (.inl z)) fun z => .inr (.inr z)) fun a z => po1.sub a z
    · have sw : ∀ a, orP W0 (orP O1 O2) a → orP (orP W0 O1) O2 a := fun a z => z.elim (fun z => .inl (.inl z)) fun z => z.elim (fun z => .inl (.inr z)) .inr
      cases k with
      | zero =>
        simp at h1 h2; subst h1; subst h2
        exact ⟨O1, t1.later po2 (fun a ⟨j, z⟩ q => e1.out j a z (.inr q)) fun a z => (sw a z).elim .inl .inr, fun a z => .inl (.inl z)⟩
      | succ k =>
        obtain ⟨Ok, t, l⟩ := ht k d v' (by simpa using h1) (by simpa using h2)
        refine ⟨Ok, t.shrink fun a z => z.elim (fun z => .inl (sw a z)) .inr, fun a z => ?_⟩
        rw [lent_cons hb]
        exact (l a z).elim (fun z => .inl (.inr z)) .inr
theorem tL_nil {QA : List V → Hp → Prop} (h : tL G .nil σ H QA) : QA [] H := by
  obtain ⟨W0, Os, env, e, r⟩ := h
  refine r [] H ⟨Os, fun _ => False, fun _ _ => False, e.shrink fun a z => z.elim id fun z => z.elim, fun _ z => z.elim, Post.refl, rfl, fun k d v q => ?_, fun _ _ _ _ z => z.elim, fun _ _ z => z.elim⟩
  simp at q
theorem tL_cons {a es : E} {QA : List V → Hp → Prop} (h : tL G (.cons a es) σ H QA) : tE G a σ H fun x H1 => tL G es σ H1 fun xs H2 => QA (x :: xs) H2 := by
  obtain ⟨W0, Os, env, e, r⟩ := h
  have r' : Run G W0 Os H (evE G.C a env >>= fun p => evL G.C es p.2 >>= fun q => .ok (p.1 :: q.1, q.2)) _ := r
  refine ⟨W0, Os, env, e, r'.bind.mono fun p hp q v H1 ⟨Os1, O1, e1, dj1, po1, t1⟩ => ⟨orP W0 O1, Os1, p.2, e1, (Run.bind q).back po1 (fun a z => .inl z) fun p2 hp2 q2 vs H2 ⟨Os2, O2, Ok, e2, dj2, po2, hl, ht, hd, hs⟩ => ?_⟩⟩
  have sw : ∀ a, orP W0 (orP O1 O2) a → orP (orP W0 O1) O2 a := fun a z => z.elim (fun z => .inl (.inl z)) fun z => z.elim (fun z => .inl (.inr z)) .inr
  have d12 : ∀ a, O1 a → ¬ O2 a := fun a z q => dj2 a q (.inr z)
  refine Run.okE (G := G) (W0 := W0) (Os := Os) (H := H) q2 (v :: vs) H2 ⟨Os2, orP O1 O2, fun k => match k with | 0 => O1 | k + 1 => Ok k, e2.reassoc, fun a z => z.elim (dj1 a) fun z q => dj2 a z (.inl q), ?_, by simp [hl], fun k d v' h1 h2 => ?_, fun i j a hij z1 z2 => ?_, fun k a z => ?_⟩
  · refine po1.trans po2 (fun a z => z.elim (fun z => .inr (.inl z)) fun z => .inr (.inr z)) fun a z => po1.sub a z
  · cases k with
    | zero =>
      simp at h1 h2; subst h1; subst h2
      exact t1.later po2 (fun a ⟨j, z⟩ q => e1.out j a z (.inr q)) fun a z => (sw a z).elim .inl .inr
    | succ k =>
      exact (ht k d v' (by simpa using h1) (by simpa using h2)).shrink fun a z => z.elim (fun z => .inl (sw a z)) .inr
  · cases i with
    | zero =>
      cases j with
      | zero => exact hij rfl
      | succ j => exact d12 a z1 (hs j a z2)
    | succ i =>
      cases j with
      | zero => exact d12 a z2 (hs i a z1)
      | succ j => exact hd i j a (fun e => hij (by rw [e])) z1 z2
  · cases k with
    | zero => exact .inl z
    | succ k => exact .inr (hs k a z)

theorem EnvOk.alloc {K : PySem.W.Frag} {W : Pr} (e : EnvOk K H W σ env Os) (sm : Same H H') (hw : ∀ a, W0 a → W a) (hO : ∀ a, O a → H a = none ∧ H' a ≠ none) : EnvOk K H' (orP W0 O) σ env Os where
  len := e.len
  tr := fun i d q => by
    obtain ⟨v, q1, q2⟩ := e.tr i d q
    refine ⟨v, q1, q2.keep (M := fun _ => False) (Keep.of_same sm) (fun _ z => z.elim) (fun _ z => z.elim) fun a z => ?_⟩
    rcases z with (z | z) | z
    · exact .inl (.inl (hw a z))
    · exact .inr (hO a z).1
    · exact .inl (.inr z)
  dj := e.dj
  out := fun i a q z => z.elim (fun z => e.out i a q (hw a z)) fun z => e.lv i a q (hO a z).1
  lv := (e.same sm).lv
  lv0 := fun a z => z.elim (fun z => (e.same sm).lv0 a (hw a z)) fun z => (hO a z).2
theorem _root_.Eq.elim_ne {α : Type} {a b : α} (h : a = b) (h' : a ≠ b) : False := h' h

/-! ### primitive operations -/
/-- the reading r of an operation follows from what the operation gives on data: nothing that was tracked changes -/
def PrimR (G : Sg) (p : Prim) (r : List V → Hp → VK → Prop) : Prop :=
  ∀ (W : Pr) (ds : List D) (vs : List V) (d : D) (H : Hp) (Q : VK), vs.length = ds.length →
    (∀ (k : Nat) (d : D) (v : V), ds[k]? = some d → vs[k]? = some v → ∃ O, Tr G.K H W d v O) → prim p ds = .ok d →
    (∀ v H' O, Same H H' → Tr G.K H' (orP W O) d v O → (∀ a, O a → H a = none ∧ H' a ≠ none) → Q v H') → r vs H Q
theorem bind_exc {α β : Type} {r : R α} {f : α → R β} {c : Str} {fs : List D} (h : (r >>= f) = .exc c fs) : (r = .exc c fs) ∨ ∃ a, r = .ok a ∧ f a = .exc c fs := by
  cases r with
  | ok a => exact .inr ⟨a, rfl, h⟩
  | exc c' fs' => exact .inl (by cases h; rfl)
  | bad => cases h
theorem pI2_noexc {g : Int → Int → Bool} {f : Int → Int → D} {ds : List D} {c : Str} {fs : List D} : pI2 g f ds ≠ .exc c fs := by
  unfold pI2; split <;> (try split) <;> (intro h; cases h)
theorem getIx_noexc {x : List D} {i : Int} {c : Str} {fs : List D} : getIx x i ≠ .exc c fs := by
  unfold getIx; split <;> (try split) <;> (intro h; cases h)
theorem prim_noexc {p : Prim} {ds : List D} {c : Str} {fs : List D} (h : prim p ds = .exc c fs) : False := by
  revert h
  cases p <;> simp only [prim] <;> first
    | exact pI2_noexc
    | (unfold pAdd; split <;> (try split) <;> (intro h; cases h))
    | (unfold pMul; split <;> (try split) <;> (intro h; cases h))
    | (unfold pI1; split <;> (intro h; cases h))
    | (unfold pNot; split <;> (intro h; cases h))
    | (unfold pEq; split <;> (try split) <;> (intro h; cases h))
    | (unfold pIn; split <;> (try split) <;> (intro h; cases h))
    | (unfold pIs; split <;> (intro h; cases h))
    | (unfold pLen; split <;> (intro h; cases h))
    | (unfold pList; split <;> (try split) <;> (intro h; cases h))
    | (unfold pTuple; split <;> (try split) <;> (intro h; cases h))
    | (unfold pLI; split <;> (try split) <;> (try dsimp only) <;> (try split) <;> (intro h; cases h))
    | (unfold pLB; split <;> (try split) <;> (intro h; cases h))
    | (unfold pInt; split <;> (intro h; cases h))
    | (unfold pRepr; split <;> (try split) <;> (intro h; cases h))
    | (unfold pIsi; split <;> (try split) <;> (intro h; cases h))
    | (unfold pIx; split <;> first | exact getIx_noexc | (intro h; cases h))
    | (unfold pSl; split <;> (try split) <;> (try split) <;> (intro h; cases h))
    | (unfold pPart; split <;> (intro h; cases h))
    | (unfold pLrng; split <;> (intro h; cases h))
    | (unfold pRev; split <;> (try split) <;> (intro h; cases h))
    | (unfold pSls; split <;> (try split) <;> (try split) <;> (intro h; cases h))
end
end KS
set_option linter.all false
set_option autoImplicit false
set_option maxRecDepth 100000
namespace KS
open PySem PySem.Spec PyProof.Rows L2

section
variable {G : Sg} {K : PySem.W.Frag} {W O : Pr} {H H' : Hp} {d d1 d2 d3 d4 : D} {v : V} {vs : List V} {Q : VK}
theorem one_of {xs : List V} (h : xs.length = [d].length) : ∃ x, xs = [x] := by
  match xs, h with
  | [x], _ => exact ⟨x, rfl⟩
theorem two_of {xs : List V} (h : xs.length = [d1, d2].length) : ∃ x y, xs = [x, y] := by
  match xs, h with
  | [x, y], _ => exact ⟨x, y, rfl⟩
theorem three_of {xs : List V} (h : xs.length = [d1, d2, d3].length) : ∃ x y z, xs = [x, y, z] := by
  match xs, h with
  | [x, y, z], _ => exact ⟨x, y, z, rfl⟩
theorem four_of {xs : List V} (h : xs.length = [d1, d2, d3, d4].length) : ∃ x y z u, xs = [x, y, z, u] := by
  match xs, h with
  | [x, y, z, u], _ => exact ⟨x, y, z, u, rfl⟩
theorem Tr.intV {i : Int} (t : Tr K H W (.int i) v O) : v = .int i := by cases t; rfl
theorem Tr.blV {i : Bool} (t : Tr K H W (.bl i) v O) : v = .bl i := by cases t; rfl
theorem Tr.strV {i : Str} (t : Tr K H W (.str i) v O) : v = .str i := by cases t; rfl
theorem Tr.lstV {o : Bool} {ds : List D} (t : Tr K H W (.lst o ds) v O) : ∃ a xs, v = .ref a ∧ H a = some (.lst xs) ∧ xs.length = ds.length ∧ ∀ (i : Nat) (x : V) (d : D), xs[i]? = some x → ds[i]? = some d → ∃ O', Tr K H W d x O' := by
  cases t with
  | lstS a c e => exact ⟨_, _, rfl, a.1, c, fun i x d h1 h2 => ⟨_, e i x d h1 h2⟩⟩
  | lstO a b c e f g => exact ⟨_, _, rfl, a, c, fun i x d h1 h2 => ⟨_, e i x d h1 h2⟩⟩
theorem Tr.tupV {ds : List D} (t : Tr K H W (.tup ds) v O) : ∃ a xs, v = .ref a ∧ H a = some (.tup xs) ∧ xs.length = ds.length ∧ ∀ (i : Nat) (x : V) (d : D), xs[i]? = some x → ds[i]? = some d → ∃ O', Tr K H W d x O' := by
  cases t with
  | tup a c e f g => exact ⟨_, _, rfl, a, c, fun i x d h1 h2 => ⟨_, e i x d h1 h2⟩⟩
/-- items that lean on nothing owned -/
def Kids (K : PySem.W.Frag) (H : Hp) (W : Pr) (ds : List D) (xs : List V) : Prop := xs.length = ds.length ∧ ∀ (i : Nat) (x : V) (d : D), xs[i]? = some x → ds[i]? = some d → Tr K H W d x (fun _ => False)
theorem kids_of {ds : List D} {xs : List V} (hl : xs.length = ds.length) (h : ∀ (i : Nat) (x : V) (d : D), xs[i]? = some x → ds[i]? = some d → ∃ O', Tr K H W d x O') (n : noOwnL ds = true) : Kids K H W ds xs :=
  ⟨hl, fun i x d h1 h2 => let ⟨_, t⟩ := h i x d h1 h2; t.noOwn (noOwnL_get n h2)⟩
theorem Kids.append {ds es : List D} {xs ys : List V} (a : Kids K H W ds xs) (b : Kids K H W es ys) : Kids K H W (ds ++ es) (xs ++ ys) := by
  refine ⟨by rw [List.length_append, List.length_append, a.1, b.1], fun i x d h1 h2 => ?_⟩
  by_cases hi : i < xs.length
  · rw [List.getElem?_append_left hi] at h1
    rw [List.getElem?_append_left (by rw [← a.1]; exact hi)] at h2
    exact a.2 i x d h1 h2
  · rw [List.getElem?_append_right (by omega)] at h1
    rw [List.getElem?_append_right (by rw [← a.1]; omega)] at h2
    rw [← a.1] at h2
    exact b.2 _ x d h1 h2
theorem Kids.sub {ds es : List D} {xs ys : List V} (a : Kids K H W ds xs) (hl : ys.length = es.length) (h : ∀ (i : Nat) (x : V) (d : D), ys[i]? = some x → es[i]? = some d → ∃ j : Nat, xs[j]? = some x ∧ ds[j]? = some d) : Kids K H W es ys :=
  ⟨hl, fun i x d h1 h2 => let ⟨j, q1, q2⟩ := h i x d h1 h2; a.2 j x d q1 q2⟩
theorem Kids.mono {W' : Pr} {ds : List D} {xs : List V} (a : Kids K H W ds xs) (k : Same H H') (hW : ∀ a, W' a → W a ∨ H a = none) : Kids K H' W' ds xs :=
  ⟨a.1, fun i x d h1 h2 => (a.2 i x d h1 h2).keep (M := fun _ => False) (Keep.of_same k) (fun _ z => z.elim) (fun _ z => z.elim) hW⟩
theorem same_upd {p : Addr} {o : HO} (h : H p = none) : Same H (upd H p o) := fun b u e => by
  rw [upd_ne (ne_of_none e h)]; exact e
/-- a new list -/
theorem newL {p : Addr} {ds : List D} {xs : List V} (hp : H p = none) (k : Kids K H W ds xs) : Tr K (upd H p (.lst xs)) (orP W fun a => a = p) (.lst true ds) (.ref p) (fun a => a = p) := by
  have k2 := k.mono (H' := upd H p (.lst xs)) (W' := orP W fun a => a = p) (same_upd hp) fun a z => z.elim .inl fun z => .inr (by rw [z]; exact hp)
  exact .lstO (Os := fun _ _ => False) upd_same rfl k.1 k2.2 (fun _ _ _ _ z => z.elim) fun _ _ z => z.elim
theorem newT {p : Addr} {ds : List D} {xs : List V} (hp : H p = none) (k : Kids K H W ds xs) : Tr K (upd H p (.tup xs)) (orP W fun _ => False) (.tup ds) (.ref p) (fun _ => False) := by
  have k2 := k.mono (H' := upd H p (.tup xs)) (W' := orP W fun _ => False) (same_upd hp) fun a z => z.elim .inl fun z => z.elim
  exact .tup (Os := fun _ _ => False) upd_same k.1 k2.2 (fun _ _ _ _ z => z.elim) fun _ _ z => z.elim
/-- how a primitive operation hands on a flat thing, a new list, a new tuple, a part -/
abbrev Hand (K : PySem.W.Frag) (H : Hp) (W : Pr) (d : D) (Q : VK) : Prop := ∀ v H' O, Same H H' → Tr K H' (orP W O) d v O → (∀ a, O a → H a = none ∧ H' a ≠ none) → Q v H'
theorem Hand.old (h : Hand K H W d Q) (t : Tr K H W d v (fun _ => False)) : Q v H :=
  h v H (fun _ => False) (Same.refl _) (t.shrink fun a z => z.elim id fun z => z.elim) fun _ z => z.elim
theorem Hand.int {i : Int} (h : Hand K H W (.int i) Q) : Q (.int i) H := h.old .int
theorem Hand.bl {i : Bool} (h : Hand K H W (.bl i) Q) : Q (.bl i) H := h.old .bl
theorem Hand.str {i : Str} (h : Hand K H W (.str i) Q) : Q (.str i) H := h.old .str
theorem Hand.lst {ds : List D} {xs : List V} {p : Addr} (h : Hand K H W (.lst true ds) Q) (k : Kids K H W ds xs) (hp : H p = none) : Q (.ref p) (upd H p (.lst xs)) :=
  h _ _ (fun a => a = p) (same_upd hp) (newL hp k) fun a z => ⟨by rw [z]; exact hp, by rw [z, upd_same]; simp⟩
theorem Hand.tup {ds : List D} {xs : List V} {p : Addr} (h : Hand K H W (.tup ds) Q) (k : Kids K H W ds xs) (hp : H p = none) : Q (.ref p) (upd H p (.tup xs)) :=
  h _ _ (fun _ => False) (same_upd hp) (newT hp k) fun a z => z.elim
theorem Kids.ints (ns : List Int) : Kids K H W (ns.map .int) (ns.map .int) := by
  refine ⟨by simp, fun i x d h1 h2 => ?_⟩
  obtain ⟨n, e1, rfl⟩ := getF h1
  obtain ⟨m, e2, rfl⟩ := getF h2
  rw [e1] at e2; cases e2
  exact .int
theorem intL_eq : ∀ {ds : List D} {ns : List Int}, intL ds = some ns → ds = ns.map .int
  | [], ns, h => by simp [intL] at h; subst h; rfl
  | .int i :: ds, ns, h => by
    simp only [intL] at h
    cases e : intL ds with
    | none => rw [e] at h; cases h
    | some ms => rw [e] at h; cases h; rw [intL_eq e]; rfl
  | .non :: _, _, h => by simp [intL] at h
  | .bl _ :: _, _, h => by simp [intL] at h
  | .str _ :: _, _, h => by simp [intL] at h
  | .scr _ :: _, _, h => by simp [intL] at h
  | .lst _ _ :: _, _, h => by simp [intL] at h
  | .tup _ :: _, _, h => by simp [intL] at h
  | .dct _ _ :: _, _, h => by simp [intL] at h
  | .dcu _ _ :: _, _, h => by simp [intL] at h
theorem boolL_eq : ∀ {ds : List D} {ns : List Bool}, boolL ds = some ns → ds = ns.map .bl
  | [], ns, h => by simp [boolL] at h; subst h; rfl
  | .bl i :: ds, ns, h => by
    simp only [boolL] at h
    cases e : boolL ds with
    | none => rw [e] at h; cases h
    | some ms => rw [e] at h; cases h; rw [boolL_eq e]; rfl
  | .non :: _, _, h => by simp [boolL] at h
  | .int _ :: _, _, h => by simp [boolL] at h
  | .str _ :: _, _, h => by simp [boolL] at h
  | .scr _ :: _, _, h => by simp [boolL] at h
  | .lst _ _ :: _, _, h => by simp [boolL] at h
  | .tup _ :: _, _, h => by simp [boolL] at h
  | .dct _ _ :: _, _, h => by simp [boolL] at h
  | .dcu _ _ :: _, _, h => by simp [boolL] at h
theorem list_ext {α : Type} {xs ys : List α} (hl : xs.length = ys.length) (h : ∀ (i : Nat) (x y : α), xs[i]? = some x → ys[i]? = some y → x = y) : xs = ys := by
  refine List.ext_getElem? fun i => ?_
  by_cases hi : i < xs.length
  · rw [List.getElem?_eq_getElem hi, List.getElem?_eq_getElem (by omega)]
    exact congrArg some (h i _ _ (List.getElem?_eq_getElem hi) (List.getElem?_eq_getElem (by omega)))
  · rw [List.getElem?_eq_none (by omega), List.getElem?_eq_none (by omega)]
theorem ints_vals {ns : List Int} {xs : List V} (hl : xs.length = (ns.map D.int).length) (h : ∀ (i : Nat) (x : V) (d : D), xs[i]? = some x → (ns.map D.int)[i]? = some d → ∃ O', Tr K H W d x O') : xs = ns.map V.int := by
  refine list_ext (by simpa using hl) fun i x y h1 h2 => ?_
  obtain ⟨n, e, rfl⟩ := getF h2
  obtain ⟨_, t⟩ := h i x (.int n) h1 (by rw [List.getElem?_map, e]; rfl)
  exact t.intV
theorem bools_vals {ns : List Bool} {xs : List V} (hl : xs.length = (ns.map D.bl).length) (h : ∀ (i : Nat) (x : V) (d : D), xs[i]? = some x → (ns.map D.bl)[i]? = some d → ∃ O', Tr K H W d x O') : xs = ns.map V.bl := by
  refine list_ext (by simpa using hl) fun i x y h1 h2 => ?_
  obtain ⟨n, e, rfl⟩ := getF h2
  obtain ⟨_, t⟩ := h i x (.bl n) h1 (by rw [List.getElem?_map, e]; rfl)
  exact t.blV
theorem line_eq : line = sizeLine := by rw [sizeLine_eq]; rfl
theorem hk1 {P : Nat → D → V → Prop} {x : V} (h : ∀ (k : Nat) (d' : D) (v : V), [d][k]? = some d' → [x][k]? = some v → P k d' v) : P 0 d x := h 0 d x rfl rfl
end

/-! ### the rules -/
section
variable {G : Sg} {X : Cx}
/-- two operands -/
def r2L (r : R2) : List V → Hp → VK → Prop := fun vs H Q => ∃ x y, vs = [x, y] ∧ r x y H Q
def r1L (r : V → Hp → VK → Prop) : List V → Hp → VK → Prop := fun vs H Q => ∃ x, vs = [x] ∧ r x H Q
theorem pr_i2 {p : Prim} {g : Int → Int → Bool} {f : Int → Int → D} {fv : Int → Int → V} {C : Int → Int → Prop} (hp : ∀ ds, prim p ds = pI2 g f ds) (hg : ∀ a b, g a b = true → C a b)
    (hf : ∀ (K : PySem.W.Frag) (H : Hp) (W : Pr) (a b : Int), Tr K H W (f a b) (fv a b) fun _ => False) : PrimR G p (r2L (rI C fv)) := by
  intro W ds vs d H Q hl ht hpr hq
  rw [hp] at hpr
  unfold pI2 at hpr
  split at hpr
  · rename_i a b
    split at hpr
    · rename_i hgg
      cases hpr
      obtain ⟨x, y, rfl⟩ := two_of hl
      obtain ⟨_, t1⟩ := ht 0 _ x rfl rfl
      obtain ⟨_, t2⟩ := ht 1 _ y rfl rfl
      refine ⟨x, y, rfl, a, b, t1.intV, t2.intV, hg a b hgg, ?_⟩
      exact Hand.old (K := G.K) (W := W) hq (hf _ _ _ a b)
    · cases hpr
  · cases hpr
theorem rI_rI0 {fv : Int → Int → V} {x y : V} {H : Hp} {Q : VK} (h : rI (fun _ _ => True) fv x y H Q) : rI0 fv x y H Q := let ⟨i, j, a, b, _, c⟩ := h; ⟨i, j, a, b, c⟩
theorem pr_i1 {p : Prim} {f : Int → D} {fv : Int → V} (hp : ∀ ds, prim p ds = pI1 f ds)
    (hf : ∀ (K : PySem.W.Frag) (H : Hp) (W : Pr) (a : Int), Tr K H W (f a) (fv a) fun _ => False) : PrimR G p (r1L (rU fv)) := by
  intro W ds vs d H Q hl ht hpr hq
  rw [hp] at hpr
  unfold pI1 at hpr
  split at hpr
  · cases hpr
    obtain ⟨x, rfl⟩ := one_of hl
    obtain ⟨_, t1⟩ := ht 0 _ x rfl rfl
    exact ⟨x, rfl, _, t1.intV, Hand.old (K := G.K) (W := W) hq (hf _ _ _ _)⟩
  · cases hpr
/-- + of ints, lists, tuples -/
def rAddA (K : PySem.W.Frag) : R2 := fun x y H Q => (rI0 (fun i j => .int (i + j)) x y H Q ∨ rCat x y H Q) ∨ rCatT K x y H Q
theorem op_addA : OpR X (binaryOp .Add) (rAddA X.K) := (op_add.or op_cat).or op_catT
theorem pr_add : PrimR G .add (r2L (rAddA G.K)) := by
  intro W ds vs d H Q hl ht hpr hq
  simp only [prim] at hpr
  unfold pAdd at hpr
  split at hpr
  · cases hpr
    obtain ⟨x, y, rfl⟩ := two_of hl
    obtain ⟨_, t1⟩ := ht 0 _ x rfl rfl
    obtain ⟨_, t2⟩ := ht 1 _ y rfl rfl
    exact ⟨x, y, rfl, .inl (.inl ⟨_, _, t1.intV, t2.intV, Hand.int (K := G.K) (W := W) hq⟩)⟩
  · split at hpr
    · rename_i hc
      cases hpr
      simp only [Bool.and_eq_true, decide_eq_true_eq] at hc
      obtain ⟨x, y, rfl⟩ := two_of hl
      obtain ⟨_, t1⟩ := ht 0 _ x rfl rfl
      obtain ⟨_, t2⟩ := ht 1 _ y rfl rfl
      obtain ⟨a, xs, rfl, ha, hla, ka⟩ := t1.lstV
      obtain ⟨b, ys, rfl, hb, hlb, kb⟩ := t2.lstV
      refine ⟨_, _, rfl, .inl (.inr ⟨a, b, xs, ys, rfl, rfl, ha, hb, by rw [hla, hlb, ← line_eq]; exact hc.2, fun p hp => ?_⟩)⟩
      exact Hand.lst (K := G.K) (W := W) hq ((kids_of hla ka hc.1.1).append (kids_of hlb kb hc.1.2)) hp
    · cases hpr
  · split at hpr
    · rename_i us ws hc
      cases hpr
      simp only [Bool.and_eq_true, decide_eq_true_eq] at hc
      obtain ⟨x, y, rfl⟩ := two_of hl
      obtain ⟨_, t1⟩ := ht 0 _ x rfl rfl
      obtain ⟨_, t2⟩ := ht 1 _ y rfl rfl
      obtain ⟨a, xs, rfl, ha, hla, ka⟩ := t1.tupV
      obtain ⟨b, ys, rfl, hb, hlb, kb⟩ := t2.tupV
      have ne : xs ≠ [] := fun z => by
        subst z
        have : us = [] := List.length_eq_zero_iff.mp (by simpa using hla.symm)
        subst this
        simp at hc
      have k1 := kids_of hla ka hc.1.1.1
      have k2 := kids_of hlb kb hc.1.1.2
      refine ⟨_, _, rfl, .inr ⟨a, b, xs, ys, rfl, rfl, SqT.of ha, SqT.of hb, ne, by rw [hla, hlb, ← line_eq]; exact hc.2, fun e => ?_, fun _ p hp => Hand.tup (K := G.K) (W := W) hq (k1.append k2) hp⟩⟩
      subst e
      have : ws = [] := List.length_eq_zero_iff.mp (by simpa using hlb.symm)
      subst this
      rw [List.append_nil] at hq
      exact Hand.old (K := G.K) (W := W) hq (.tup (Os := fun _ _ => False) ha hla k1.2 (fun _ _ _ _ z => z.elim) fun _ _ z => z.elim)
    · cases hpr
  · cases hpr
def rMulA : R2 := fun x y H Q => rI CMul (fun i j => .int (i * j)) x y H Q ∨ rRep x y H Q
theorem op_mulA : OpR X (binaryOp .Mult) rMulA := op_mul.or op_rep
theorem pr_mul : PrimR G .mul (r2L rMulA) := by
  intro W ds vs d H Q hl ht hpr hq
  simp only [prim] at hpr
  unfold pMul at hpr
  split at hpr
  · split at hpr
    · rename_i hc
      cases hpr
      obtain ⟨x, y, rfl⟩ := two_of hl
      obtain ⟨_, t1⟩ := ht 0 _ x rfl rfl
      obtain ⟨_, t2⟩ := ht 1 _ y rfl rfl
      refine ⟨x, y, rfl, .inl ⟨_, _, t1.intV, t2.intV, ?_, Hand.int (K := G.K) (W := W) hq⟩⟩
      simp only [Bool.or_eq_true, decide_eq_true_eq] at hc
      exact hc.imp (fun z => by omega) fun z => by omega
    · cases hpr
  · split at hpr
    · rename_i us k hc
      cases hpr
      simp only [Bool.and_eq_true, decide_eq_true_eq] at hc
      obtain ⟨x, y, rfl⟩ := two_of hl
      obtain ⟨_, t1⟩ := ht 0 _ x rfl rfl
      obtain ⟨_, t2⟩ := ht 1 _ y rfl rfl
      obtain ⟨a, xs, rfl, ha, hla, ka⟩ := t1.lstV
      refine ⟨_, _, rfl, .inr ⟨a, k, xs, rfl, t2.intV, ha, hc.1.2, hc.2, by rw [hla, ← line_eq]; exact hc.1.1.2, fun p hp => ?_⟩⟩
      have k1 := kids_of hla ka hc.1.1.1
      refine Hand.lst (K := G.K) (W := W) hq ?_ hp
      have rep : ∀ n : Nat, Kids G.K H W (List.replicate n us).flatten (List.replicate n xs).flatten := by
        intro n
        induction n with
        | zero => exact ⟨rfl, fun i x d h1 => by simp at h1⟩
        | succ n ih => simp only [List.replicate_succ, List.flatten_cons]; exact k1.append ih
      exact rep _
    · cases hpr
  · cases hpr
def rNot : V → Hp → VK → Prop := fun x H Q => ∃ c, x = .bl c ∧ Q (.bl (!c)) H
theorem pr_not : PrimR G .nt (r1L rNot) := by
  intro W ds vs d H Q hl ht hpr hq
  simp only [prim] at hpr
  unfold pNot at hpr
  split at hpr
  · cases hpr
    obtain ⟨x, rfl⟩ := one_of hl
    obtain ⟨_, t1⟩ := ht 0 _ x rfl rfl
    exact ⟨x, rfl, _, t1.blV, Hand.bl (K := G.K) (W := W) hq⟩
  · cases hpr
end
end KS
set_option linter.all false
set_option autoImplicit false
set_option maxRecDepth 100000
namespace KS
open PySem PySem.Spec PyProof.Rows L2

/-! ### plain facts -/
theorem insI_perm (x : Int) : ∀ l : List Int, (insI x l).Perm (x :: l)
  | [] => List.Perm.refl _
  | y :: ys => by
    unfold insI
    split
    · exact List.Perm.refl _
    · exact ((insI_perm x ys).cons y).trans (List.Perm.swap x y ys)
theorem sortI_perm : ∀ l : List Int, (sortI l).Perm l
  | [] => List.Perm.refl _
  | x :: xs => (insI_perm x _).trans ((sortI_perm xs).cons x)
theorem insI_mem {x y : Int} {l : List Int} (h : y ∈ insI x l) : y = x ∨ y ∈ l := by
  have := (insI_perm x l).mem_iff.mp h
  simpa using this
theorem insI_sorted (x : Int) : ∀ {l : List Int}, l.Pairwise (· ≤ ·) → (insI x l).Pairwise (· ≤ ·)
  | [], _ => by simp [insI]
  | y :: ys, h => by
    unfold insI
    rw [List.pairwise_cons] at h
    split
    · rename_i hxy
      refine List.pairwise_cons.mpr ⟨fun z hz => ?_, List.pairwise_cons.mpr h⟩
      rcases List.mem_cons.mp hz with rfl | hz
      · exact hxy
      · exact Int.le_trans hxy (h.1 z hz)
    · rename_i hxy
      refine List.pairwise_cons.mpr ⟨fun z hz => ?_, insI_sorted x h.2⟩
      rcases insI_mem hz with rfl | hz
      · omega
      · exact h.1 z hz
theorem sortI_sorted : ∀ l : List Int, (sortI l).Pairwise (· ≤ ·)
  | [] => List.Pairwise.nil
  | x :: xs => insI_sorted x (sortI_sorted xs)
theorem sorted_unique : ∀ {l m : List Int}, l.Perm m → l.Pairwise (· ≤ ·) → m.Pairwise (· ≤ ·) → l = m
  | [], m, p, _, _ => (List.nil_perm.mp p).symm
  | x :: l, [], p, _, _ => by have := p.length_eq; simp at this
  | x :: l, y :: m, p, h1, h2 => by
    rw [List.pairwise_cons] at h1 h2
    have e : x = y := by
      have a : x ∈ y :: m := p.mem_iff.mp List.mem_cons_self
      have b : y ∈ x :: l := p.mem_iff.mpr List.mem_cons_self
      rcases List.mem_cons.mp a with e | a
      · exact e
      · rcases List.mem_cons.mp b with e | b
        · exact e.symm
        · exact Int.le_antisymm (h1.1 y b) (h2.1 x a)
    subst e
    rw [sorted_unique (List.Perm.cons_inv p) h1.2 h2.2]
theorem foldl_max_ge : ∀ (l : List Int) (x : Int), x ≤ l.foldl max x ∧ (∀ y ∈ l, y ≤ l.foldl max x) ∧ (l.foldl max x = x ∨ l.foldl max x ∈ l)
  | [], x => ⟨Int.le_refl _, (fun _ h => nomatch h), .inl rfl⟩
  | z :: l, x => by
    obtain ⟨h1, h2, h3⟩ := foldl_max_ge l (max x z)
    simp only [List.foldl_cons]
    refine ⟨by omega, fun y hy => ?_, ?_⟩
    · rcases List.mem_cons.mp hy with rfl | hy
      · omega
      · exact h2 y hy
    · rcases h3 with h3 | h3
      · rw [h3]
        by_cases hz : x ≤ z
        · right; rw [Int.max_eq_right hz]; exact List.mem_cons_self
        · left; omega
      · exact .inr (List.mem_cons_of_mem _ h3)
theorem foldl_min_le : ∀ (l : List Int) (x : Int), l.foldl min x ≤ x ∧ (∀ y ∈ l, l.foldl min x ≤ y) ∧ (l.foldl min x = x ∨ l.foldl min x ∈ l)
  | [], x => ⟨Int.le_refl _, (fun _ h => nomatch h), .inl rfl⟩
  | z :: l, x => by
    obtain ⟨h1, h2, h3⟩ := foldl_min_le l (min x z)
    simp only [List.foldl_cons]
    refine ⟨by omega, fun y hy => ?_, ?_⟩
    · rcases List.mem_cons.mp hy with rfl | hy
      · omega
      · exact h2 y hy
    · rcases h3 with h3 | h3
      · rw [h3]
        by_cases hz : z ≤ x
        · right; rw [Int.min_eq_right hz]; exact List.mem_cons_self
        · left; omega
      · exact .inr (List.mem_cons_of_mem _ h3)
theorem maxI_spec {l : List Int} (h : l ≠ []) : maxI l ∈ l ∧ ∀ y ∈ l, y ≤ maxI l := by
  cases l with
  | nil => exact absurd rfl h
  | cons x l =>
    obtain ⟨h1, h2, h3⟩ := foldl_max_ge l x
    refine ⟨h3.elim (fun e => by show l.foldl max x ∈ _; rw [e]; exact List.mem_cons_self) fun e => List.mem_cons_of_mem _ e, fun y hy => ?_⟩
    rcases List.mem_cons.mp hy with rfl | hy
    · exact h1
    · exact h2 y hy
theorem minI_spec {l : List Int} (h : l ≠ []) : minI l ∈ l ∧ ∀ y ∈ l, minI l ≤ y := by
  cases l with
  | nil => exact absurd rfl h
  | cons x l =>
    obtain ⟨h1, h2, h3⟩ := foldl_min_le l x
    refine ⟨h3.elim (fun e => by show l.foldl min x ∈ _; rw [e]; exact List.mem_cons_self) fun e => List.mem_cons_of_mem _ e, fun y hy => ?_⟩
    rcases List.mem_cons.mp hy with rfl | hy
    · exact h1
    · exact h2 y hy

section
variable {G : Sg} {X : Cx} {K : PySem.W.Frag} {W O : Pr} {H H' : Hp} {d d1 d2 d3 : D} {v : V} {vs : List V} {Q : VK}
/-! ### flat things, data -/
def toV : D → V
  | .bl b => .bl b
  | .int i => .int i
  | .str s => .str s
  | _ => .non
theorem Tr.flatV (t : Tr K H W d v O) (f : flat d = true) : v = toV d := by
  cases t <;> first | rfl | (simp [flat] at f)
theorem flat_toV (f : flat d = true) : L2.flatV (toV d) = true := by
  cases d <;> first | rfl | (simp [flat] at f)
theorem eqV_toV {x y : D} (fx : flat x = true) (fy : flat y = true) : L2.eqV (toV x) (toV y) = eqF x y := by
  cases x <;> cases y <;> first | rfl | (simp [flat] at fx fy)
theorem flat_vals {ds : List D} {xs : List V} (hl : xs.length = ds.length) (h : ∀ (i : Nat) (x : V) (d : D), xs[i]? = some x → ds[i]? = some d → ∃ O', Tr K H W d x O') (f : ds.all flat = true) : xs = ds.map toV := by
  refine list_ext (by simpa using hl) fun i x y h1 h2 => ?_
  obtain ⟨d, e, rfl⟩ := getF h2
  obtain ⟨_, t⟩ := h i x d h1 e
  exact t.flatV (List.all_eq_true.mp f d (List.mem_of_getElem? e))
theorem noDictL_get : ∀ {xs : List D} {i : Nat} {d : D}, noDictL xs = true → xs[i]? = some d → noDict d = true
  | x :: xs, 0, d, h, e => by
    simp only [noDictL, Bool.and_eq_true] at h
    simp at e; subst e; exact h.1
  | x :: xs, i + 1, d, h, e => by
    simp only [noDictL, Bool.and_eq_true] at h
    exact noDictL_get h.2 (by simpa using e)
theorem dpAll_of : ∀ {ds : List D} {xs : List V}, xs.length = ds.length → (∀ (i : Nat) (x : V) (d : D), xs[i]? = some x → ds[i]? = some d → Dp K H x (toPy d)) → DpAll K H xs (toPyL ds)
  | [], [], _, _ => .nil
  | d :: ds, x :: xs, hl, h => by
    simp only [toPyL]
    exact .cons (h 0 x d rfl rfl) (dpAll_of (by simpa using hl) fun i x d h1 h2 => h (i + 1) x d (by simpa using h1) (by simpa using h2))
  | [], _ :: _, hl, _ => by simp at hl
  | _ :: _, [], hl, _ => by simp at hl
theorem Tr.dp (t : Tr K H W d v O) : noDict d = true → Dp K H v (toPy d) := by
  induction t with
  | non => intro _; exact .non
  | bl => intro _; exact .bl _
  | int => intro _; exact .int _
  | str => intro _; exact .str _
  | scr h => intro n; simp [noDict] at n
  | lstS a c e ih =>
    intro n
    simp only [noDict] at n
    simp only [toPy]
    exact .lst (SqL.of a.1) (dpAll_of c fun i x d h1 h2 => ih i x d h1 h2 (noDictL_get n h2))
  | lstO a b c e f g ih =>
    intro n
    simp only [noDict] at n
    simp only [toPy]
    exact .lst (SqL.of a) (dpAll_of c fun i x d h1 h2 => ih i x d h1 h2 (noDictL_get n h2))
  | tup a c e f g ih =>
    intro n
    simp only [noDict] at n
    simp only [toPy]
    exact .tup (SqT.of a) (dpAll_of c fun i x d h1 h2 => ih i x d h1 h2 (noDictL_get n h2))
  | dctS => intro n; simp [noDict] at n
  | dctO => intro n; simp [noDict] at n
  | dcuS => intro n; simp [noDict] at n
  | dcuO => intro n; simp [noDict] at n
def rEqA (K : PySem.W.Frag) : R2 := fun x y H Q => rEq x y H Q ∨ rEqD K x y H Q
def rNeA (K : PySem.W.Frag) : R2 := fun x y H Q => rNe x y H Q ∨ rNeD K x y H Q
theorem op_eqA (hu : X.A.units + 64 < cLine) : OpR X (compareOp .Eq) (rEqA X.K) := op_eq.or (op_eqD hu)
theorem op_neA (hu : X.A.units + 64 < cLine) : OpR X (compareOp .NotEq) (rNeA X.K) := op_ne.or (op_neD hu)
theorem scal_flat {x y : D} {Hh : Hp} (fx : flat x = true) (fy : flat y = true) : (scal (toV x) (toV y) = true ∧ decide (toV x = toV y) = eqF x y) ∨
    (noDict x = true ∧ noDict y = true ∧ SeqAt.shaped (toPy x) = true ∧ SeqAt.shaped (toPy y) = true ∧ PyData.eqv (toPy x) (toPy y) = eqF x y) := by
  cases x <;> first | (simp [flat] at fx; done) | skip
  all_goals (cases y <;> first | (simp [flat] at fy; done) | skip)
  all_goals first
    | (left; refine ⟨rfl, ?_⟩; simp [toV, eqF, Bool.beq_eq_decide_eq]; done)
    | (right; refine ⟨rfl, rfl, rfl, rfl, ?_⟩; simp [toPy, eqF, PyData.eqv]; done)
theorem pr_eqn {p : Prim} (neg : Bool) (hp : ∀ ds, prim p ds = pEq neg ds) : PrimR G p (r2L fun x y H Q => if neg = true then rNeA G.K x y H Q else rEqA G.K x y H Q) := by
  intro W ds vs d H Q hl ht hpr hq
  rw [hp] at hpr
  unfold pEq at hpr
  split at hpr
  · rename_i a b
    obtain ⟨x, y, rfl⟩ := two_of hl
    obtain ⟨_, t1⟩ := ht 0 _ x rfl rfl
    obtain ⟨_, t2⟩ := ht 1 _ y rfl rfl
    split at hpr
    · rename_i r hr
      cases hpr
      have fin : ∀ {k : Bool}, r = k → Q (.bl (if neg = true then !k else k)) H := fun {k} e => by subst e; exact Hand.bl (K := G.K) (W := W) hq
      refine ⟨x, y, rfl, ?_⟩
      have done : ∀ {c : Bool}, c = r → (scal x y = true ∧ decide (x = y) = c) ∨ (∃ d e, Dp G.K H x d ∧ Dp G.K H y e ∧ SeqAt.shaped d = true ∧ SeqAt.shaped e = true ∧ PyData.eqv d e = c) →
          (if neg = true then rNeA G.K x y H Q else rEqA G.K x y H Q) := fun {c} e h => by
        have q := fin (k := c) e.symm
        cases neg with
        | true =>
          rw [if_pos rfl] at q ⊢
          rcases h with ⟨h1, h2⟩ | ⟨d, e, h1, h2, h3, h4, h5⟩
          · exact .inl ⟨h1, by rw [h2]; exact q⟩
          · exact .inr ⟨d, e, h1, h2, h3, h4, by rw [h5]; exact q⟩
        | false =>
          rw [if_neg Bool.false_ne_true] at q ⊢
          rcases h with ⟨h1, h2⟩ | ⟨d, e, h1, h2, h3, h4, h5⟩
          · exact .inl ⟨h1, by rw [h2]; exact q⟩
          · exact .inr ⟨d, e, h1, h2, h3, h4, by rw [h5]; exact q⟩
      unfold eqD at hr
      split at hr
      · rename_i hf
        cases hr
        simp only [Bool.and_eq_true] at hf
        have e1 := t1.flatV hf.1
        have e2 := t2.flatV hf.2
        rcases scal_flat (Hh := H) hf.1 hf.2 with ⟨h1, h2⟩ | ⟨h1, h2, h3, h4, h5⟩
        · exact done h2 (.inl (by rw [e1, e2]; exact ⟨h1, rfl⟩))
        · exact done h5 (.inr ⟨_, _, t1.dp h1, t2.dp h2, h3, h4, rfl⟩)
      · split at hr
        · rename_i hf
          cases hr
          simp only [Bool.and_eq_true] at hf
          exact done rfl (.inr ⟨_, _, t1.dp hf.1.1.1, t2.dp hf.1.1.2, hf.1.2, hf.2, rfl⟩)
        · cases hr
    · cases hpr
  · cases hpr
theorem pr_in {p : Prim} (neg : Bool) (hp : ∀ ds, prim p ds = pIn neg ds) : PrimR G p (r2L (rIn G.K neg)) := by
  intro W ds vs d H Q hl ht hpr hq
  rw [hp] at hpr
  unfold pIn at hpr
  have key : ∀ {x : V} {xd : D} {xs : List V} {ds : List D} {p : Addr}, (SqL G.K H p xs ∨ SqT G.K H p xs) → x = toV xd → xs = ds.map toV → flat xd = true → ds.all flat = true →
      Q (.bl (if neg = true then !(ds.any fun y => eqF y xd) else ds.any fun y => eqF y xd)) H → rIn G.K neg x (.ref p) H Q := by
    intro x xd xs ds p h e1 e2 f1 f2 q
    subst e1 e2
    refine ⟨p, _, rfl, h, flat_toV f1, ?_, ?_⟩
    · rw [List.all_map]
      exact List.all_eq_true.mpr fun d hd => flat_toV (List.all_eq_true.mp f2 d hd)
    · have e : L2.inV (toV xd) (ds.map toV) = ds.any fun y => eqF y xd := by
        unfold L2.inV
        rw [List.any_map]
        have : ∀ l : List D, l.all flat = true → l.any ((fun y => L2.eqV y (toV xd)) ∘ toV) = l.any fun y => eqF y xd := by
          intro l
          induction l with
          | nil => intro _; rfl
          | cons d l ih =>
            intro h
            simp only [List.all_cons, Bool.and_eq_true] at h
            simp only [List.any_cons, Function.comp_apply, eqV_toV h.1 f1]
            rw [← ih h.2]
        exact this ds f2
      rw [e]; exact q
  split at hpr
  · split at hpr
    · rename_i hc
      cases hpr
      simp only [Bool.and_eq_true] at hc
      obtain ⟨x, y, rfl⟩ := two_of hl
      obtain ⟨_, t1⟩ := ht 0 _ x rfl rfl
      obtain ⟨_, t2⟩ := ht 1 _ y rfl rfl
      obtain ⟨a, xs, rfl, ha, hla, ka⟩ := t2.lstV
      exact ⟨x, _, rfl, key (.inl (SqL.of ha)) (t1.flatV hc.1) (flat_vals hla ka hc.2) hc.1 hc.2 (Hand.bl (K := G.K) (W := W) hq)⟩
    · cases hpr
  · split at hpr
    · rename_i hc
      cases hpr
      simp only [Bool.and_eq_true] at hc
      obtain ⟨x, y, rfl⟩ := two_of hl
      obtain ⟨_, t1⟩ := ht 0 _ x rfl rfl
      obtain ⟨_, t2⟩ := ht 1 _ y rfl rfl
      obtain ⟨a, xs, rfl, ha, hla, ka⟩ := t2.tupV
      exact ⟨x, _, rfl, key (.inr (SqT.of ha)) (t1.flatV hc.1) (flat_vals hla ka hc.2) hc.1 hc.2 (Hand.bl (K := G.K) (W := W) hq)⟩
    · cases hpr
  · cases hpr
def rIsNn (neg : Bool) : V → Hp → VK → Prop := fun x H Q => Q (.bl (if neg = true then !decide (x = .non) else decide (x = .non))) H
theorem pr_isN {p : Prim} (neg : Bool) (hp : ∀ ds, prim p ds = pIs neg ds) : PrimR G p (r1L (rIsNn neg)) := by
  intro W ds vs d H Q hl ht hpr hq
  rw [hp] at hpr
  unfold pIs at hpr
  split at hpr
  · rename_i a
    cases hpr
    obtain ⟨x, rfl⟩ := one_of hl
    obtain ⟨_, t1⟩ := ht 0 _ x rfl rfl
    refine ⟨x, rfl, ?_⟩
    have e : decide (x = V.non) = isNonD a := by cases t1 <;> simp [isNonD]
    show Q (.bl (if neg = true then !decide (x = .non) else decide (x = .non))) H
    rw [e]
    exact Hand.bl (K := G.K) (W := W) hq
  · cases hpr
/-! ### built-ins -/
def rLen (K : PySem.W.Frag) : List V → Hp → VK → Prop := fun xs H Q => ∃ p ys, xs = [.ref p] ∧ (SqL K H p ys ∨ SqT K H p ys) ∧ Q (.int ys.length) H
theorem pr_len : PrimR G .len (rLen G.K) := by
  intro W ds vs d H Q hl ht hpr hq
  simp only [prim] at hpr
  unfold pLen at hpr
  split at hpr
  · cases hpr
    obtain ⟨x, rfl⟩ := one_of hl
    obtain ⟨_, t1⟩ := ht 0 _ x rfl rfl
    obtain ⟨a, xs, rfl, ha, hla, ka⟩ := t1.lstV
    exact ⟨a, xs, rfl, .inl (SqL.of ha), by rw [hla]; exact Hand.int (K := G.K) (W := W) hq⟩
  · cases hpr
    obtain ⟨x, rfl⟩ := one_of hl
    obtain ⟨_, t1⟩ := ht 0 _ x rfl rfl
    obtain ⟨a, xs, rfl, ha, hla, ka⟩ := t1.tupV
    exact ⟨a, xs, rfl, .inr (SqT.of ha), by rw [hla]; exact Hand.int (K := G.K) (W := W) hq⟩
  · cases hpr
def rListA (K : PySem.W.Frag) : List V → Hp → VK → Prop := fun xs H Q => ∃ p ys, xs = [.ref p] ∧ (SqL K H p ys ∨ SqT K H p ys) ∧ ∀ l, H l = none → Q (.ref l) (upd H l (.lst ys))
theorem pr_list : PrimR G .list (rListA G.K) := by
  intro W ds vs d H Q hl ht hpr hq
  simp only [prim] at hpr
  unfold pList at hpr
  split at hpr
  · split at hpr
    · rename_i hc
      cases hpr
      obtain ⟨x, rfl⟩ := one_of hl
      obtain ⟨_, t1⟩ := ht 0 _ x rfl rfl
      obtain ⟨a, xs, rfl, ha, hla, ka⟩ := t1.lstV
      exact ⟨a, xs, rfl, .inl (SqL.of ha), fun l hl => Hand.lst (K := G.K) (W := W) hq (kids_of hla ka hc) hl⟩
    · cases hpr
  · split at hpr
    · rename_i hc
      cases hpr
      obtain ⟨x, rfl⟩ := one_of hl
      obtain ⟨_, t1⟩ := ht 0 _ x rfl rfl
      obtain ⟨a, xs, rfl, ha, hla, ka⟩ := t1.tupV
      exact ⟨a, xs, rfl, .inr (SqT.of ha), fun l hl => Hand.lst (K := G.K) (W := W) hq (kids_of hla ka hc) hl⟩
    · cases hpr
  · cases hpr
def rTupleA (K : PySem.W.Frag) : List V → Hp → VK → Prop := fun xs H Q => ∃ p ys, xs = [.ref p] ∧ ((SqL K H p ys ∧ ∀ l, H l = none → Q (.ref l) (upd H l (.tup ys))) ∨ (SqT K H p ys ∧ Q (.ref p) H))
theorem pr_tuple : PrimR G .tuple (rTupleA G.K) := by
  intro W ds vs d H Q hl ht hpr hq
  simp only [prim] at hpr
  unfold pTuple at hpr
  split at hpr
  · split at hpr
    · rename_i hc
      cases hpr
      obtain ⟨x, rfl⟩ := one_of hl
      obtain ⟨_, t1⟩ := ht 0 _ x rfl rfl
      obtain ⟨a, xs, rfl, ha, hla, ka⟩ := t1.lstV
      exact ⟨a, xs, rfl, .inl ⟨SqL.of ha, fun l hl => Hand.tup (K := G.K) (W := W) hq (kids_of hla ka hc) hl⟩⟩
    · cases hpr
  · cases hpr
theorem liK {ds : List D} {f : List Int → R D} (hpr : pLI f ds = .ok d) (hl : vs.length = ds.length) (ht : ∀ (k : Nat) (d : D) (v : V), ds[k]? = some d → vs[k]? = some v → ∃ O, Tr K H W d v O) :
    ∃ a ns, vs = [.ref a] ∧ H a = some (.lst (ns.map V.int)) ∧ f ns = .ok d := by
  unfold pLI at hpr
  split at hpr
  · split at hpr
    · rename_i ns hn
      obtain ⟨x, rfl⟩ := one_of hl
      obtain ⟨_, t1⟩ := ht 0 _ x rfl rfl
      obtain ⟨a, xs, rfl, ha, hla, ka⟩ := t1.lstV
      have e := intL_eq hn
      subst e
      have e2 := ints_vals hla ka
      subst e2
      exact ⟨a, ns, rfl, ha, hpr⟩
    · cases hpr
  · cases hpr
theorem pr_sorted : PrimR G .sorted (rSortedI G.K) := by
  intro W ds vs d H Q hl ht hpr hq
  simp only [prim] at hpr
  obtain ⟨a, ns, rfl, ha, hf⟩ := liK hpr hl ht
  cases hf
  refine ⟨a, ns, rfl, SqL.of ha, fun ns' p hp hs hn => ?_⟩
  have e : ns' = sortI ns := sorted_unique (hp.trans (sortI_perm ns).symm) hs (sortI_sorted ns)
  subst e
  exact Hand.lst (K := G.K) (W := W) hq (Kids.ints _) hn
theorem pr_max1 : PrimR G .max1 (rMax G.K) := by
  intro W ds vs d H Q hl ht hpr hq
  simp only [prim] at hpr
  obtain ⟨a, ns, rfl, ha, hf⟩ := liK hpr hl ht
  split at hf
  · cases hf
  · rename_i hne
    cases hf
    have ne : ns ≠ [] := fun z => hne (by rw [z]; rfl)
    obtain ⟨h1, h2⟩ := maxI_spec ne
    refine ⟨a, ns, rfl, SqL.of ha, List.length_pos_iff.mpr ne, fun m hm hle => ?_⟩
    have e : m = maxI ns := Int.le_antisymm (h2 m hm) (hle _ h1)
    rw [e]; exact Hand.int (K := G.K) (W := W) hq
theorem pr_min1 : PrimR G .min1 (rMin G.K) := by
  intro W ds vs d H Q hl ht hpr hq
  simp only [prim] at hpr
  obtain ⟨a, ns, rfl, ha, hf⟩ := liK hpr hl ht
  split at hf
  · cases hf
  · rename_i hne
    cases hf
    have ne : ns ≠ [] := fun z => hne (by rw [z]; rfl)
    obtain ⟨h1, h2⟩ := minI_spec ne
    refine ⟨a, ns, rfl, SqL.of ha, List.length_pos_iff.mpr ne, fun m hm hle => ?_⟩
    have e : m = minI ns := Int.le_antisymm (hle _ h1) (h2 m hm)
    rw [e]; exact Hand.int (K := G.K) (W := W) hq
theorem pr_sum : PrimR G .sum (rSum G.K) := by
  intro W ds vs d H Q hl ht hpr hq
  simp only [prim] at hpr
  obtain ⟨a, ns, rfl, ha, hf⟩ := liK hpr hl ht
  cases hf
  exact ⟨a, ns, rfl, SqL.of ha, Hand.int (K := G.K) (W := W) hq⟩
theorem lbK {ds : List D} {f : List Bool → D} (hpr : pLB f ds = .ok d) (hl : vs.length = ds.length) (ht : ∀ (k : Nat) (d : D) (v : V), ds[k]? = some d → vs[k]? = some v → ∃ O, Tr K H W d v O) :
    ∃ a ns, vs = [.ref a] ∧ H a = some (.lst (ns.map V.bl)) ∧ f ns = d := by
  unfold pLB at hpr
  split at hpr
  · split at hpr
    · rename_i ns hn
      cases hpr
      obtain ⟨x, rfl⟩ := one_of hl
      obtain ⟨_, t1⟩ := ht 0 _ x rfl rfl
      obtain ⟨a, xs, rfl, ha, hla, ka⟩ := t1.lstV
      have e := boolL_eq hn
      subst e
      have e2 := bools_vals hla ka
      subst e2
      exact ⟨a, ns, rfl, ha, rfl⟩
    · cases hpr
  · cases hpr
theorem pr_all : PrimR G .all (rAll G.K) := by
  intro W ds vs d H Q hl ht hpr hq
  simp only [prim] at hpr
  obtain ⟨a, ns, rfl, ha, rfl⟩ := lbK hpr hl ht
  exact ⟨a, ns, rfl, SqL.of ha, Hand.bl (K := G.K) (W := W) hq⟩
theorem pr_any : PrimR G .any (rAny G.K) := by
  intro W ds vs d H Q hl ht hpr hq
  simp only [prim] at hpr
  obtain ⟨a, ns, rfl, ha, rfl⟩ := lbK hpr hl ht
  exact ⟨a, ns, rfl, SqL.of ha, Hand.bl (K := G.K) (W := W) hq⟩
def rIntA : List V → Hp → VK → Prop := fun xs H Q => (∃ i, xs = [.int i] ∧ Q (.int i) H) ∨ ∃ k, xs = [.bl k] ∧ Q (.int (if k then 1 else 0)) H
theorem pr_int : PrimR G .int rIntA := by
  intro W ds vs d H Q hl ht hpr hq
  simp only [prim] at hpr
  unfold pInt at hpr
  split at hpr
  · cases hpr
    obtain ⟨x, rfl⟩ := one_of hl
    obtain ⟨_, t1⟩ := ht 0 _ x rfl rfl
    exact .inl ⟨_, by rw [t1.intV], Hand.int (K := G.K) (W := W) hq⟩
  · cases hpr
    obtain ⟨x, rfl⟩ := one_of hl
    obtain ⟨_, t1⟩ := ht 0 _ x rfl rfl
    exact .inr ⟨_, by rw [t1.blV], Hand.int (K := G.K) (W := W) hq⟩
  · cases hpr
def rAbs : List V → Hp → VK → Prop := fun xs H Q => ∃ i, xs = [.int i] ∧ Q (.int (if i < 0 then -i else i)) H
theorem pr_abs : PrimR G .abs rAbs := by
  intro W ds vs d H Q hl ht hpr hq
  simp only [prim] at hpr
  unfold pI1 at hpr
  split at hpr
  · cases hpr
    obtain ⟨x, rfl⟩ := one_of hl
    obtain ⟨_, t1⟩ := ht 0 _ x rfl rfl
    exact ⟨_, by rw [t1.intV], Hand.int (K := G.K) (W := W) hq⟩
  · cases hpr
def rTwoI (f : Int → Int → Int) : List V → Hp → VK → Prop := fun xs H Q => ∃ i j, xs = [.int i, .int j] ∧ Q (.int (f i j)) H
theorem pr_two {p : Prim} {f : Int → Int → Int} (hp : ∀ ds, prim p ds = pI2 (fun _ _ => true) (fun a b => .int (f a b)) ds) : PrimR G p (rTwoI f) := by
  intro W ds vs d H Q hl ht hpr hq
  rw [hp] at hpr
  unfold pI2 at hpr
  split at hpr
  · simp only [if_true] at hpr
    cases hpr
    obtain ⟨x, y, rfl⟩ := two_of hl
    obtain ⟨_, t1⟩ := ht 0 _ x rfl rfl
    obtain ⟨_, t2⟩ := ht 1 _ y rfl rfl
    exact ⟨_, _, by rw [t1.intV, t2.intV], Hand.int (K := G.K) (W := W) hq⟩
  · cases hpr
theorem getIxK {ds : List D} {i : Int} {xs : List V} (hpr : getIx ds i = .ok d) (hl : xs.length = ds.length) (h : ∀ (i : Nat) (x : V) (d : D), xs[i]? = some x → ds[i]? = some d → ∃ O', Tr K H W d x O') :
    ∃ x, atI xs i = some x ∧ Tr K H W d x fun _ => False := by
  unfold getIx at hpr
  split at hpr
  · rename_i d' hd
    split at hpr
    · rename_i hn
      cases hpr
      unfold atI at hd ⊢
      rw [hl]
      cases e : ixN ds.length i with
      | none => rw [e] at hd; cases hd
      | some j =>
        rw [e] at hd
        have hd : ds[j]? = some d := hd
        have hj : j < xs.length := by rw [hl]; exact (List.getElem?_eq_some_iff.mp hd).1
        obtain ⟨_, t⟩ := h j xs[j] d (List.getElem?_eq_getElem hj) hd
        exact ⟨xs[j], List.getElem?_eq_getElem hj, t.noOwn hn⟩
    · cases hpr
  · cases hpr
def rIxA (K : PySem.W.Frag) : R2 := fun x y H Q => rIxL K x y H Q ∨ rIxT K x y H Q
theorem ix_A : IxR X (rIxA X.K) := ix_list.or ix_tup
theorem pr_ix : PrimR G .ix (r2L (rIxA G.K)) := by
  intro W ds vs d H Q hl ht hpr hq
  simp only [prim] at hpr
  unfold pIx at hpr
  split at hpr
  · obtain ⟨x, y, rfl⟩ := two_of hl
    obtain ⟨_, t1⟩ := ht 0 _ x rfl rfl
    obtain ⟨_, t2⟩ := ht 1 _ y rfl rfl
    obtain ⟨a, xs, rfl, ha, hla, ka⟩ := t1.lstV
    obtain ⟨z, hz, t⟩ := getIxK hpr hla ka
    exact ⟨_, _, rfl, .inl ⟨a, xs, _, z, rfl, t2.intV, SqL.of ha, hz, Hand.old (K := G.K) (W := W) hq t⟩⟩
  · obtain ⟨x, y, rfl⟩ := two_of hl
    obtain ⟨_, t1⟩ := ht 0 _ x rfl rfl
    obtain ⟨_, t2⟩ := ht 1 _ y rfl rfl
    obtain ⟨a, xs, rfl, ha, hla, ka⟩ := t1.tupV
    obtain ⟨z, hz, t⟩ := getIxK hpr hla ka
    exact ⟨_, _, rfl, .inr ⟨a, xs, _, z, rfl, t2.intV, SqT.of ha, hz, Hand.old (K := G.K) (W := W) hq t⟩⟩
  · cases hpr
/-! ### slices -/
theorem sIx_eq (n d : Nat) (o : Option Int) : KS.sIx n d o = HT.sIx n d o := by
  cases o <;> rfl
theorem cut_eq (xs : List V) (lo hi : Option Int) : cutV xs lo hi = cut xs lo hi := rfl
theorem Kids.cut {ds : List D} {xs : List V} (k : Kids K H W ds xs) (lo hi : Option Int) : Kids K H W (KS.cut ds lo hi) (KS.cut xs lo hi) := by
  unfold KS.cut
  rw [k.1]
  refine k.sub (by simp [k.1]) fun i x d h1 h2 => ?_
  rw [List.getElem?_take] at h1 h2
  split at h1
  · rename_i hi'
    rw [if_pos hi'] at h2
    rw [List.getElem?_drop] at h1 h2
    exact ⟨_, h1, h2⟩
  · cases h1
/-- a slice's bound, as data: left out, or an int -/
def pOf : V → Option Int → Prop := fun v o => match o with
  | none => v = .non
  | some i => v = .int i
theorem optI_of {lo : Option Int} (h : optI d = .ok lo) (t : Tr K H W d v O) : pOf v lo := by
  unfold optI at h
  split at h
  · cases h; cases t; rfl
  · cases h; cases t; rfl
  · cases h
def rSlA (K : PySem.W.Frag) : List V → Hp → VK → Prop := fun vs H Q => ∃ x y z lo hi, vs = [x, y, z] ∧ pOf y lo ∧ pOf z hi ∧ rSlL K x lo hi H Q
theorem cut_map {α β : Type} (f : α → β) (xs : List α) (lo hi : Option Int) : (cut xs lo hi).map f = cut (xs.map f) lo hi := by
  unfold cut; rw [List.map_take, List.map_drop, List.length_map]
theorem pr_sl : PrimR G .sl (rSlA G.K) := by
  intro W ds vs d H Q hl ht hpr hq
  simp only [prim] at hpr
  unfold pSl at hpr
  split at hpr
  · rename_i ns da db
    split at hpr
    · rename_i lo hi h1 h2
      cases hpr
      obtain ⟨x, y, z, rfl⟩ := three_of hl
      obtain ⟨_, t1⟩ := ht 0 _ x rfl rfl
      obtain ⟨_, t2⟩ := ht 1 _ y rfl rfl
      obtain ⟨_, t3⟩ := ht 2 _ z rfl rfl
      cases t1 with
      | scr h =>
        rename_i a
        have hs : SqL G.K H a (ns.map V.int) := h.elim (fun ⟨o, q⟩ => .inl (.inr ⟨o, q⟩)) fun q => q H
        refine ⟨_, y, z, lo, hi, rfl, optI_of h1 t2, optI_of h2 t3, a, _, rfl, hs, fun p hp => ?_⟩
        rw [cut_eq, ← cut_map]
        exact Hand.lst (K := G.K) (W := W) hq (Kids.ints _) hp
    · cases hpr
  · split at hpr
    · rename_i lo hi h1 h2
      split at hpr
      · rename_i hc
        cases hpr
        obtain ⟨x, y, z, rfl⟩ := three_of hl
        obtain ⟨_, t1⟩ := ht 0 _ x rfl rfl
        obtain ⟨_, t2⟩ := ht 1 _ y rfl rfl
        obtain ⟨_, t3⟩ := ht 2 _ z rfl rfl
        obtain ⟨a, xs, rfl, ha, hla, ka⟩ := t1.lstV
        refine ⟨_, y, z, lo, hi, rfl, optI_of h1 t2, optI_of h2 t3, a, _, rfl, SqL.of ha, fun p hp => ?_⟩
        rw [cut_eq]
        exact Hand.lst (K := G.K) (W := W) hq ((kids_of hla ka hc).cut lo hi) hp
      · cases hpr
    · cases hpr
  · cases hpr
/-! ### slices by steps -/
theorem Kids.pick {ds : List D} {xs : List V} (k : Kids K H W ds xs) : ∀ is : List Nat, Kids K H W (is.filterMap fun i => ds[i]?) (is.filterMap fun i => xs[i]?)
  | [] => ⟨rfl, fun i x d h _ => by simp at h⟩
  | i :: is => by
    have ih := Kids.pick k is
    cases hx : xs[i]? with
    | none =>
      have hd : ds[i]? = none := by rw [List.getElem?_eq_none_iff] at hx ⊢; rw [← k.1]; exact hx
      rw [List.filterMap_cons_none (by exact hd), List.filterMap_cons_none (by exact hx)]
      exact ih
    | some x =>
      have hi : i < ds.length := by rw [← k.1]; exact (List.getElem?_eq_some_iff.mp hx).1
      have hd : ds[i]? = some ds[i] := List.getElem?_eq_getElem hi
      rw [List.filterMap_cons_some (by exact hd), List.filterMap_cons_some (by exact hx)]
      refine ⟨by rw [List.length_cons, List.length_cons, ih.1], fun j y d h1 h2 => ?_⟩
      cases j with
      | zero =>
        rw [List.getElem?_cons_zero] at h1 h2
        obtain rfl := Option.some.inj h1
        obtain rfl := Option.some.inj h2
        exact k.2 i _ _ hx hd
      | succ j =>
        rw [List.getElem?_cons_succ] at h1 h2
        exact ih.2 j y d h1 h2
def rSlsL (K : PySem.W.Frag) : V → Option Int → Option Int → Option Int → Hp → VK → Prop := fun x lo hi st H Q => ∃ a xs, x = .ref a ∧ SqL K H a xs ∧ st ≠ some 0 ∧ ∀ p, H p = none → Q (.ref p) (upd H p (.lst (pickL xs lo hi st)))
def rSlsA (K : PySem.W.Frag) : List V → Hp → VK → Prop := fun vs H Q => ∃ x y z u lo hi st, vs = [x, y, z, u] ∧ pOf y lo ∧ pOf z hi ∧ pOf u st ∧ rSlsL K x lo hi st H Q
theorem pr_sls : PrimR G .sls (rSlsA G.K) := by
  intro W ds vs d H Q hl ht hpr hq
  simp only [prim] at hpr
  unfold pSls at hpr
  split at hpr
  · split at hpr
    · rename_i lo hi st h1 h2 h3
      split at hpr
      · rename_i hc
        cases hpr
        rw [Bool.and_eq_true, decide_eq_true_eq] at hc
        obtain ⟨x, y, z, u, rfl⟩ := four_of hl
        obtain ⟨_, t1⟩ := ht 0 _ x rfl rfl
        obtain ⟨_, t2⟩ := ht 1 _ y rfl rfl
        obtain ⟨_, t3⟩ := ht 2 _ z rfl rfl
        obtain ⟨_, t4⟩ := ht 3 _ u rfl rfl
        obtain ⟨a, xs, rfl, ha, hla, ka⟩ := t1.lstV
        refine ⟨_, y, z, u, lo, hi, st, rfl, optI_of h1 t2, optI_of h2 t3, optI_of h3 t4, a, _, rfl, SqL.of ha, hc.1, fun p hp => ?_⟩
        have k := (kids_of hla ka hc.2).pick (PySem.sliceRange (PySem.sliceBounds lo hi st xs.length).1 (PySem.sliceBounds lo hi st xs.length).2.1 (PySem.sliceBounds lo hi st xs.length).2.2)
        refine Hand.lst (K := G.K) (W := W) hq ?_ hp
        unfold pickL
        rw [← hla]
        exact k
      · cases hpr
    · cases hpr
  · cases hpr
def rRev (K : PySem.W.Frag) : V → Hp → VK → Prop := fun x H Q => ∃ a xs, x = .ref a ∧ SqL K H a xs ∧ ∀ p, H p = none → Q (.ref p) (upd H p (.lst xs.reverse))
theorem pr_rev : PrimR G .rev (r1L (rRev G.K)) := by
  intro W ds vs d H Q hl ht hpr hq
  simp only [prim] at hpr
  unfold pRev at hpr
  split at hpr
  · split at hpr
    · rename_i hc
      cases hpr
      obtain ⟨x, rfl⟩ := one_of hl
      obtain ⟨_, t1⟩ := ht 0 _ x rfl rfl
      obtain ⟨a, xs, rfl, ha, hla, ka⟩ := t1.lstV
      refine ⟨_, rfl, a, xs, rfl, SqL.of ha, fun p hp => Hand.lst (K := G.K) (W := W) hq ?_ hp⟩
      have k := kids_of hla ka hc
      refine k.sub (by simp [k.1]) fun i x d h1 h2 => ?_
      have hi : i < xs.length := by
        have := (List.getElem?_eq_some_iff.mp h1).1
        simpa using this
      rw [List.getElem?_reverse hi] at h1
      rw [List.getElem?_reverse (by rw [← hla]; exact hi), ← hla] at h2
      exact ⟨_, h1, h2⟩
    · cases hpr
  · cases hpr
/-! ### isinstance, repr -/
def rIsi1 (K : PySem.W.Frag) (T : String) : List V → Hp → VK → Prop := fun xs H Q => ∃ x, xs = [x] ∧ rIsi K [x, .ty T] H Q
/-- the type's name of a datum -/
def tyD : D → String
  | .non => "NoneType" | .bl _ => "bool" | .int _ => "int" | .str _ => "str" | .lst _ _ => "list" | .tup _ => "tuple" | .dct _ _ => "dict" | .dcu _ _ => "dict" | .scr _ => "list"
theorem Tr.tyX (t : Tr K H W d v O) (h : isiOk d = true) : TyX K H v (.type (tyD d)) := by
  cases t with
  | non => exact .base .non
  | bl => exact .base (.bl _)
  | int => exact .base (.int _)
  | str => exact .base (.str _)
  | scr => simp [isiOk] at h
  | lstS a c e => exact .base (.lst a.1)
  | lstO a b c e f g => exact .base (.lst a)
  | tup a c e f g => exact .base (.tup a)
  | dctS => simp [isiOk] at h
  | dctO => simp [isiOk] at h
  | dcuS => simp [isiOk] at h
  | dcuO => simp [isiOk] at h
theorem pr_isi {p : Prim} {f : D → Bool} {T : String} (hp : ∀ ds, prim p ds = pIsi f ds) (hf : ∀ d : D, isiOk d = true → kitB (tyD d) T = some (f d)) : PrimR G p (rIsi1 G.K T) := by
  intro W ds vs d H Q hl ht hpr hq
  rw [hp] at hpr
  unfold pIsi at hpr
  split at hpr
  · split at hpr
    · rename_i a hc
      cases hpr
      obtain ⟨x, rfl⟩ := one_of hl
      obtain ⟨_, t1⟩ := ht 0 _ x rfl rfl
      exact ⟨x, rfl, x, .ty T, _, _, f a, rfl, .ty T, t1.tyX hc, kit_ty (hf a hc), Hand.bl (K := G.K) (W := W) hq⟩
    · cases hpr
  · cases hpr
theorem kit_int (d : D) (h : isiOk d = true) : kitB (tyD d) "int" = some (isIntD d) := by
  cases d <;> first | (simp [isiOk] at h; done) | (simp only [tyD, isIntD]; decide +kernel)
theorem kit_bool (d : D) (h : isiOk d = true) : kitB (tyD d) "bool" = some (isBoolD d) := by
  cases d <;> first | (simp [isiOk] at h; done) | (simp only [tyD, isBoolD]; decide +kernel)
theorem kit_list (d : D) (h : isiOk d = true) : kitB (tyD d) "list" = some (isListD d) := by
  cases d <;> first | (simp [isiOk] at h; done) | (simp only [tyD, isListD]; decide +kernel)
mutual
theorem noDict_has : ∀ d : D, noDict d = true → (toPy d).hasDict = false
  | .non, _ => by simp only [toPy, PyData.hasDict]
  | .bl _, _ => by simp only [toPy, PyData.hasDict]
  | .int _, _ => by simp only [toPy, PyData.hasDict]
  | .str _, _ => by simp only [toPy, PyData.hasDict]
  | .scr _, h => by simp [noDict] at h
  | .lst _ xs, h => by
    simp only [noDict] at h
    simp only [toPy, PyData.hasDict]
    exact noDictL_has xs h
  | .tup xs, h => by
    simp only [noDict] at h
    simp only [toPy, PyData.hasDict]
    exact noDictL_has xs h
  | .dct _ _, h => by simp [noDict] at h
  | .dcu _ _, h => by simp [noDict] at h
theorem noDictL_has : ∀ ds : List D, noDictL ds = true → PyData.hasDictAll (toPyL ds) = false
  | [], _ => by simp only [toPyL, PyData.hasDictAll]
  | d :: ds, h => by
    simp only [noDictL, Bool.and_eq_true] at h
    simp only [toPyL, PyData.hasDictAll, noDict_has d h.1, noDictL_has ds h.2, Bool.or_self]
end
def rReprA (K : PySem.W.Frag) : List V → Hp → VK → Prop := fun xs H Q => ∃ x d, xs = [x] ∧ Dp K H x d ∧ d.hasDict = false ∧ d.showable = true ∧ d.shown.length ≤ sizeLine ∧ d.depth ≤ 16 ∧ Q (.str d.shown) H
theorem call_reprA (hg : X.A.guards = some []) (hu : X.A.units + 64 < cLine) : CallR X (.builtin "repr") (rReprA X.K) := by
  intro pins s σ H xs us Q I r h
  obtain ⟨x, d, rfl, hd, hn, hs, hz, h16, q⟩ := h
  obtain ⟨u, rfl, ru⟩ := vals1 r
  obtain ⟨as, rd⟩ := Dp.reads I d x u hd ru
  cases hd with
  | non => cases ru; exact PySem.P.repr_of_none ⟨.str _, H, I.tok _, ⟨_, rfl⟩, by simpa only [PyData.shown] using q⟩
  | bl b => cases ru; exact PySem.P.repr_of_bool ⟨.str _, H, I.tok _, ⟨_, rfl⟩, by simpa only [PyData.shown] using q⟩
  | int i =>
    obtain ⟨t, rfl⟩ := ru
    exact PySem.P.repr_of_int (by simpa [PyData.showable] using hs) ⟨.str _, H, I.tok _, ⟨_, rfl⟩, by simpa only [PyData.shown] using q⟩
  | str z =>
    obtain ⟨t, rfl⟩ := ru
    simp only [PyData.shown] at hz q
    exact PySem.P.repr_of_str ⟨.str _, H, I.tok _, ⟨_, rfl⟩, q⟩ hz
  | lst h1 h2 =>
    cases ru
    exact repr_of_reads' rd hs (PyData.noDict_hsm hn) hg (by omega) (fun _ _ e => e) (fun h' t tk hk => ⟨.str _, H, I.kept (h' := h') (t' := tk) hk, ⟨_, rfl⟩, q⟩) hz
  | tup h1 h2 =>
    cases ru
    exact repr_of_reads' rd hs (PyData.noDict_hsm hn) hg (by omega) (fun _ _ e => e) (fun h' t tk hk => ⟨.str _, H, I.kept (h' := h') (t' := tk) hk, ⟨_, rfl⟩, q⟩) hz
theorem tupleText_le (ts : List Str) : (tupleText ts).length ≤ piled ts + 4 := by
  unfold tupleText
  rw [strLen_append, strLen_append]
  have e1 : (("(" : String) : Str).length = 1 := rfl
  have e3 : (((if ts.length == 1 then ",)" else ")" : String) : Str)).length ≤ 2 := by split <;> decide
  by_cases h : ts = []
  · subst h
    have : (Str.join ", " []).length = 0 := rfl
    omega
  · have := join_length_add ts h
    omega
theorem piled_eq (ts : List Str) : piled ts = (ts.map (·.length)).sum + 2 * ts.length := by
  induction ts with
  | nil => rfl
  | cons t ts ih => rw [piled_cons, ih]; simp; omega
mutual
theorem shw_ok : ∀ (d : D) (k : Nat), shw d k = true → noDict d = true ∧ (toPy d).showable = true ∧ (toPy d).depth ≤ k ∧ (toPy d).shown.length + 2 ≤ 2000 * nodes d
  | .non, k, h => ⟨rfl, rfl, Nat.zero_le _, by decide⟩
  | .bl b, k, h => ⟨rfl, rfl, Nat.zero_le _, by cases b <;> decide⟩
  | .int i, k, h => by
    have h : i.natAbs.log2 < 1920 := of_decide_eq_true h
    refine ⟨rfl, decide_eq_true h, Nat.zero_le _, ?_⟩
    have := int_text_len_1921 h
    show (Str.ofString (toString i)).length + 2 ≤ 2000 * 1
    omega
  | .lst o xs, 0, h => by cases h
  | .lst o xs, k + 1, h => by
    obtain ⟨h1, h2, h3, h4⟩ := shwL_ok xs k h
    refine ⟨h1, h2, Nat.succ_le_succ h3, ?_⟩
    show (listText (PyData.shownAll (toPyL xs))).length + 2 ≤ 2000 * (nodesL xs + 1)
    have := listText_len_le (PyData.shownAll (toPyL xs))
    rw [piled_eq] at h4
    omega
  | .tup xs, 0, h => by cases h
  | .tup xs, k + 1, h => by
    obtain ⟨h1, h2, h3, h4⟩ := shwL_ok xs k h
    refine ⟨h1, h2, Nat.succ_le_succ h3, ?_⟩
    show (tupleText (PyData.shownAll (toPyL xs))).length + 2 ≤ 2000 * (nodesL xs + 1)
    have := tupleText_le (PyData.shownAll (toPyL xs))
    omega
  | .str _, k, h => by cases h
  | .scr _, k, h => by cases h
  | .dct _ _, k, h => by cases h
  | .dcu _ _, k, h => by cases h
theorem shwL_ok : ∀ (xs : List D) (k : Nat), shwL xs k = true → noDictL xs = true ∧ PyData.showableAll (toPyL xs) = true ∧ PyData.depthAll (toPyL xs) ≤ k ∧ piled (PyData.shownAll (toPyL xs)) ≤ 2000 * nodesL xs
  | [], k, h => ⟨rfl, rfl, Nat.zero_le _, Nat.le_refl _⟩
  | x :: xs, k, h => by
    have h : (shw x k && shwL xs k) = true := h
    rw [Bool.and_eq_true] at h
    obtain ⟨a1, a2, a3, a4⟩ := shw_ok x k h.1
    obtain ⟨b1, b2, b3, b4⟩ := shwL_ok xs k h.2
    refine ⟨?_, ?_, ?_, ?_⟩
    · show (noDict x && noDictL xs) = true
      rw [a1, b1]; rfl
    · show ((toPy x).showable && PyData.showableAll (toPyL xs)) = true
      rw [a2, b2]; rfl
    · show max (toPy x).depth (PyData.depthAll (toPyL xs)) ≤ k
      omega
    · show piled ((toPy x).shown :: PyData.shownAll (toPyL xs)) ≤ 2000 * (nodes x + nodesL xs)
      rw [piled_cons]
      omega
end
theorem pr_repr : PrimR G .repr (rReprA G.K) := by
  intro W ds vs d H Q hl ht hpr hq
  simp only [prim] at hpr
  unfold pRepr at hpr
  split at hpr
  · split at hpr
    · rename_i hc
      cases hpr
      unfold reprOk at hc
      simp only [Bool.and_eq_true, decide_eq_true_eq] at hc
      obtain ⟨c1, c2, c3, c4⟩ := shw_ok _ 16 hc.1
      obtain ⟨x, rfl⟩ := one_of hl
      obtain ⟨_, t1⟩ := ht 0 _ x rfl rfl
      have hline : line = 16777216 := rfl
      exact ⟨x, _, rfl, t1.dp c1, noDict_has _ c1, c2, by rw [← line_eq]; omega, c3, Hand.str (K := G.K) (W := W) hq⟩
    · cases hpr
  · cases hpr
/-! ### powers of any size -/
theorem op_powA : OpR X (binaryOp .Pow) (rI (fun a n => 0 ≤ n ∧ (Builtin.Int.intBits a : Int) * n ≤ 2 ^ 27) fun i j => .int (i ^ j.toNat)) := opI fun _ _ _ _ _ _ _ hc q => pow_int hc.1 hc.2 q
end
end KS
set_option linter.all false
set_option autoImplicit false
set_option maxRecDepth 100000
namespace KS
open PySem PySem.Spec PyProof.Rows L2

section
variable {K : PySem.W.Frag} {H H' H1 H2 : Hp} {W0 W O O1 O2 M : Pr} {σ σ' : L2.St} {env env' : Env} {Os Os' Os1 Os2 : Nat → Pr} {d : D} {v : V} {i : Nat}
/-- a slot's thing is changed in place and a part of it, or a new thing, is handed out -/
theorem EnvOk.change2 (e : EnvOk K H W σ env Os) (hw : ∀ a, W0 a → W a) (hv : σ[i]? = some (some v)) (k : Keep H H' (Os i)) (hO : ∀ a, O a → Os i a ∨ H a = none) (hP : ∀ a, O2 a → Os i a ∨ H a = none) (hd : ∀ a, O a → ¬ O2 a)
    (lO : ∀ a, O a → H' a ≠ none) (lP : ∀ a, O2 a → H' a ≠ none) (ll : ∀ a, Os i a → H' a ≠ none ∨ True) (t : Tr K H' (EW (orP W0 O2) (setO Os i O)) d v O) : EnvOk K H' (orP W0 O2) σ (env.set i (some d)) (setO Os i O) := by
  have ew : ∀ a, EW (orP W0 O2) (setO Os i O) a → EW W Os a ∨ H a = none := by
    rintro a ((z | z) | ⟨j, z⟩)
    · exact .inl (.inl (hw a z))
    · exact (hP a z).imp (fun q => .inr ⟨i, q⟩) id
    · by_cases hj : j = i
      · subst hj; rw [setO_same] at z
        exact (hO a z).imp (fun q => .inr ⟨j, q⟩) id
      · rw [setO_ne hj] at z; exact .inl (.inr ⟨j, z⟩)
  have live : ∀ a, ¬ Os i a → H a ≠ none → H' a ≠ none := fun a n z => by
    cases q : H a with
    | none => exact absurd q z
    | some o => rw [k a o q fun m => absurd m n]; simp
  refine ⟨by simp [e.len], fun j d' q => ?_, fun j k' a hjk q1 q2 => ?_, fun j a q z => ?_, fun j a q => ?_, fun a z => ?_⟩
  · by_cases hj : j = i
    · subst hj
      have hl : j < env.length := by have := (List.getElem?_eq_some_iff.mp q).1; simpa using this
      rw [List.getElem?_set_self hl] at q
      cases q
      refine ⟨v, hv, ?_⟩
      rw [setO_same]
      exact t
    · rw [List.getElem?_set_ne (Ne.symm hj)] at q
      obtain ⟨v', q1, q2⟩ := e.tr j d' q
      refine ⟨v', q1, ?_⟩
      rw [setO_ne hj]
      exact q2.keep k (fun a z => .inr ⟨i, z⟩) (fun a z q => e.dj i j a (Ne.symm hj) z q) ew
  · by_cases hj : j = i
    · subst hj
      rw [setO_same] at q1
      rw [setO_ne (Ne.symm hjk)] at q2
      rcases hO a q1 with r | r
      · exact e.dj j k' a hjk r q2
      · exact e.lv k' a q2 r
    · rw [setO_ne hj] at q1
      by_cases hk : k' = i
      · subst hk
        rw [setO_same] at q2
        rcases hO a q2 with r | r
        · exact e.dj k' j a (Ne.symm hjk) r q1
        · exact e.lv j a q1 r
      · rw [setO_ne hk] at q2
        exact e.dj j k' a hjk q1 q2
  · rcases z with z | z
    · by_cases hj : j = i
      · subst hj; rw [setO_same] at q
        rcases hO a q with r | r
        · exact e.out j a r (hw a z)
        · exact e.lv0 a (hw a z) r
      · rw [setO_ne hj] at q; exact e.out j a q (hw a z)
    · by_cases hj : j = i
      · subst hj; rw [setO_same] at q; exact hd a q z
      · rw [setO_ne hj] at q
        rcases hP a z with r | r
        · exact e.dj i j a (Ne.symm hj) r q
        · exact e.lv j a q r
  · by_cases hj : j = i
    · subst hj; rw [setO_same] at q; exact lO a q
    · rw [setO_ne hj] at q
      exact live a (fun r => e.dj i j a (Ne.symm hj) r q) (e.lv j a q)
  · rcases z with z | z
    · exact live a (fun r => e.out i a r (hw a z)) (e.lv0 a (hw a z))
    · exact lP a z
/-- fewer cells are thought owned -/
theorem EnvOk.less (e : EnvOk K H W0 σ env Os) (h : ∀ (i : Nat) (a : Addr), Os' i a → Os i a) (ht : ∀ (i : Nat) (d : D), env'[i]? = some (some d) → ∃ v, σ[i]? = some (some v) ∧ Tr K H (EW W0 Os') d v (Os' i)) (hl : σ.length = env'.length) : EnvOk K H W0 σ env' Os' :=
  ⟨hl, ht, fun i j a hij q1 q2 => e.dj i j a hij (h i a q1) (h j a q2), fun i a q => e.out i a (h i a q), fun i a q => e.lv i a (h i a q), e.lv0⟩
theorem EnvOk.frzAll (e : EnvOk K H W0 σ env Os) : ∀ is : List Nat, ∃ Os', EnvOk K H W0 σ (frzAll env is) Os' ∧ ∀ (j : Nat) (a : Addr), Os' j a → Os j a ∧ j ∉ is
  | [] => ⟨Os, e, fun j a z => ⟨z, by simp⟩⟩
  | i :: is => by
    obtain ⟨Os1, e1, h1⟩ := e.frzAll is
    refine ⟨_, e1.frzAt i, fun j a z => ?_⟩
    by_cases hj : j = i
    · subst hj; rw [setO_same] at z; exact z.elim
    · rw [setO_ne hj] at z
      exact ⟨(h1 j a z).1, fun q => (List.mem_cons.mp q).elim hj (h1 j a z).2⟩
end

section
variable {G : Sg} {W0 W1 O O1 : Pr} {Os Os1 Os' : Nat → Pr} {H H1 H' : Hp} {σ : L2.St} {env env1 env' : Env} {A B : E} {Q Q' : VK} {d : D} {v : V}
/-- a test that changes nothing and keeps nothing -/
theorem EnvOk.frzEnv {K : PySem.W.Frag} (e : EnvOk K H W0 σ env Os) : EnvOk K H W0 σ (KS.frzEnv env) (fun _ _ => False) := by
  obtain ⟨Os4, e4, h4⟩ := e.frzAll (List.range env.length)
  refine ⟨e4.len, fun i d q => ?_, fun _ _ _ _ z => z.elim, fun _ _ z => z.elim, fun _ _ z => z.elim, e4.lv0⟩
  obtain ⟨v, q1, t⟩ := e4.tr i d q
  refine ⟨v, q1, ?_⟩
  have hi : i < env.length := by
    have h1 := (List.getElem?_eq_some_iff.mp q).1
    have h2 : (KS.frzEnv env).length = env.length := by rw [← e.len]; exact e4.len.symm
    rw [h2] at h1
    exact h1
  have h0 : Os4 i = fun _ => False := funext fun a => propext ⟨fun z => (h4 i a z).2 (List.mem_range.mpr hi), False.elim⟩
  rw [h0] at t
  exact t.shrink fun a z => z.elim .inl fun ⟨j, w⟩ => w.elim
theorem tE_pin (h : tE G (.pin A) σ H Q) : tE G A σ H Q := by
  obtain ⟨W0, Os, env, e, r⟩ := h
  have r' : Run G W0 Os H (noX (evE G.C A (KS.frzEnv env)) >>= fun p => if isFresh p.1 = true then .ok (p.1, env) else .bad) fun p => ∀ v H', Res G W0 Os H σ p.2 p.1 v H' → Q v H' := r
  refine ⟨W0, fun _ _ => False, KS.frzEnv env, e.frzEnv, ?_⟩
  cases g : evE G.C A (KS.frzEnv env) with
  | exc c fs => rw [g] at r'; exact r'.elim
  | bad => rw [g] at r'; exact r'.elim
  | ok p =>
    rw [g] at r'
    have r2 : Run G W0 Os H (if isFresh p.1 = true then .ok (p.1, env) else .bad) fun p => ∀ v H', Res G W0 Os H σ p.2 p.1 v H' → Q v H' := r'
    obtain ⟨hf, q⟩ := Run.guard r2
    show ∀ v H', Res G W0 (fun _ _ => False) H σ p.2 p.1 v H' → Q v H'
    intro v H' ⟨Os', O, e1, dj, po, t⟩
    have sm : Same H H' := fun a o z => po.keep a o z fun ⟨j, w⟩ => w.elim
    have hO : ∀ a, O a → H a = none ∧ H' a ≠ none := fun a z => ⟨(po.sub a (.inr z)).elim (fun ⟨j, w⟩ => w.elim) id, e1.lv0 a (.inr z)⟩
    exact q v H' ⟨Os, O, e.alloc sm (fun a z => z) hO, dj, ⟨Keep.of_same sm, fun a z => z.elim .inl fun z => .inr (hO a z).1⟩, t.fresh hf⟩
/-! ### names, constants -/
theorem tE_lit {d : D} {v : V} (hd : ∀ (K : PySem.W.Frag) (H : Hp) (W : Pr), Tr K H W d v fun _ => False) (h : tE G (.lit d) σ H Q) : Q v H := by
  obtain ⟨W0, Os, env, e, r⟩ := h
  exact r v H ⟨Os, fun _ => False, e.shrink fun a z => z.elim id fun z => z.elim, fun _ z => z.elim, Post.refl, hd _ _ _⟩
theorem tE_var {i : Nat} (h : tE G (.var i) σ H Q) : tVar i σ H Q := by
  obtain ⟨W0, Os, env, e, r⟩ := h
  have r' : Run G W0 Os H (getE env i >>= fun d => .ok (frz d, env.set i (some (frz d)))) _ := r
  have r1 := r'.bind
  cases g : getE env i with
  | exc c fs => unfold getE at g; split at g <;> cases g
  | bad => rw [g] at r1; exact r1.elim
  | ok d =>
    rw [g] at r1
    have ge := getE_ok g
    obtain ⟨v, hv, t⟩ := e.tr i d ge
    refine ⟨v, hv, Run.okE (G := G) (W0 := W0) (Os := Os) (H := H) r1 v H ?_⟩
    have e2 := e.frzAt i
    have ee : frzAt env i = env.set i (some (frz d)) := by unfold frzAt; rw [ge]
    rw [ee] at e2
    refine ⟨_, fun _ => False, e2.shrink fun a z => z.elim id fun z => z.elim, fun _ z => z.elim, ⟨Keep.refl _ _, fun a z => ?_⟩, ?_⟩
    · rcases z with ⟨j, z⟩ | z
      · by_cases hj : j = i
        · subst hj; rw [setO_same] at z; exact z.elim
        · rw [setO_ne hj] at z; exact .inl ⟨j, z⟩
      · exact z.elim
    · refine t.frz fun a z => ?_
      rcases z with (z | z) | ⟨j, z⟩
      · exact ⟨.inl z, fun q => e.out i a q z⟩
      · exact z.elim
      · by_cases hj : j = i
        · subst hj; rw [setO_same] at z; exact z.elim
        · rw [setO_ne hj] at z; exact ⟨.inr ⟨j, z⟩, fun q => e.dj j i a hj z q⟩
theorem tE_op {p : Prim} {es : E} {r : List V → Hp → VK → Prop} (hr : PrimR G p r) (h : tE G (.op p es) σ H Q) : tA G es σ H fun vs H1 => r vs H1 Q := by
  obtain ⟨W0, Os, env, e, rn⟩ := h
  have rn' : Run G W0 Os H (evA G.C es env >>= fun q => opR p (lent es) q.1 q.2) _ := rn
  refine ⟨W0, Os, env, e, rn'.bind.mono fun q hq k vs H1 ⟨Os1, O1, e1, dj1, po1, hl, ht⟩ => ?_⟩
  unfold opR at k
  cases g : prim p q.1 with
  | ok d =>
    rw [g] at k
    refine hr (EW (orP W0 O1) Os1) q.1 vs d H1 Q hl (fun k d v h1 h2 => let ⟨Ok, t, _⟩ := ht k d v h1 h2; ⟨Ok, t⟩) g fun v H2 O sm t hO => ?_
    refine Run.okE (G := G) (W0 := W0) (Os := Os) (H := H) k v H2 ⟨Os1, O, e1.alloc sm (fun a z => .inl z) hO, fun a z q => (hO a z).1.elim_ne (e1.lv0 a (.inl q)), ?_, t.shrink fun a z => ?_⟩
    · refine po1.trans (O2 := fun a => H1 a = none) ⟨fun a o z m => sm _ _ z, fun a z => z.elim .inl .inr⟩ (fun a z => .inr (.inr (hO a z).1)) fun a z => po1.sub a z
    · rcases z with (z | z) | z
      · exact .inl (.inl (.inl z))
      · exact .inr z
      · exact .inl (.inr z)
  | _ =>
    rw [g] at k
    cases g2 : prim p (q.1.map frz) with
    | exc c fs => rw [g2] at k; exact k.elim
    | bad => rw [g2] at k; exact k.elim
    | ok d =>
      rw [g2] at k
      obtain ⟨Os4, e4, h4⟩ := e1.frzAll (lent es)
      refine hr (EW W0 Os4) (q.1.map frz) vs d H1 Q (by rw [hl, List.length_map]) (fun k d v h1 h2 => ?_) g2 fun v H2 O sm t hO => ?_
      · obtain ⟨d0, q1, rfl⟩ := getF h1
        obtain ⟨Ok, t, ho⟩ := ht k d0 v q1 h2
        refine ⟨fun _ => False, t.frz fun a z => ?_⟩
        rcases z with z | ⟨j, z⟩
        · refine ⟨.inl (.inl z), fun r => ?_⟩
          rcases ho a r with r | ⟨m, _, r⟩
          · exact dj1 a r z
          · exact e1.out m a r (.inl z)
        · obtain ⟨z1, z2⟩ := h4 j a z
          refine ⟨.inr ⟨j, z1⟩, fun r => ?_⟩
          rcases ho a r with r | ⟨m, hm, r⟩
          · exact e1.out j a z1 (.inr r)
          · exact e1.dj m j a (fun q => z2 (by rw [← q]; exact hm)) r z1
      · refine Run.okE (G := G) (W0 := W0) (Os := Os) (H := H) k v H2 ⟨Os4, O, e4.alloc sm (fun a z => .inl z) hO, fun a z q => (hO a z).1.elim_ne (e4.lv0 a (.inl q)), ?_, t.shrink fun a z => ?_⟩
        · have po4 : Post H Os H1 Os4 (fun _ => False) := ⟨po1.keep, fun a z => z.elim (fun ⟨j, z⟩ => po1.sub a (.inl ⟨j, (h4 j a z).1⟩)) fun z => z.elim⟩
          refine po4.trans (O2 := fun a => H1 a = none) ⟨fun a o z m => sm _ _ z, fun a z => z.elim .inl .inr⟩ (fun a z => .inr (.inr (hO a z).1)) fun a z => po4.sub a z
        · rcases z with (z | z) | z
          · exact .inl (.inl z)
          · exact .inr z
          · exact .inl (.inr z)
/-! ### one thing after another -/
/-- the second part runs where the first one ended: what is wanted of the whole, from there -/
theorem Res.then {d1 : D} {v1 : V} {α : Type} {r : R α} {k : α → Prop} (h : Res G W0 Os H σ env1 d1 v1 H1) (hr : Run G W0 Os H r k) :
    ∃ (Os1 : Nat → Pr) (O1 : Pr), EnvOk G.K H1 (orP W0 O1) σ env1 Os1 ∧ (∀ a, O1 a → ¬ W0 a) ∧ Post H Os H1 Os1 O1 ∧ Run G (orP W0 O1) Os1 H1 r k := by
  obtain ⟨Os1, O1, e1, dj, po, t⟩ := h
  exact ⟨Os1, O1, e1, dj, po, hr.back po (fun a z => .inl z) fun _ _ z => z⟩
/-- the first thing is dropped -/
theorem Res.seq {d2 : D} {v2 : V} {H2 : Hp} {env2 : Env} (e1 : EnvOk G.K H1 (orP W0 O1) σ env1 Os1) (dj1 : ∀ a, O1 a → ¬ W0 a) (po1 : Post H Os H1 Os1 O1) (h : Res G (orP W0 O1) Os1 H1 σ env2 d2 v2 H2) : Res G W0 Os H σ env2 d2 v2 H2 := by
  obtain ⟨Os2, O2, e2, dj2, po2, t⟩ := h
  refine ⟨Os2, O2, e2.shrink fun a z => z.elim (fun z => .inl (.inl z)) .inr, fun a z q => dj2 a z (.inl q), po1.trans po2 (fun a z => .inr (.inr z)) (fun a z => po1.sub a z), t.shrink fun a z => ?_⟩
  rcases z with (z | z) | z
  · exact .inl (.inl (.inl z))
  · exact .inl (.inr z)
  · exact .inr z
theorem truth_ok {b : Bool} (h : truth d = .ok b) : d = .bl b := by
  unfold truth at h; split at h <;> cases h; rfl
theorem truth_noexc {c : Str} {fs : List D} : truth d ≠ .exc c fs := by
  unfold truth; split <;> (intro h; cases h)
theorem Run.truth {α : Type} {f : Bool → R α} {k : α → Prop} (h : Run G W0 Os H (KS.truth d >>= f) k) : ∃ b, d = .bl b ∧ Run G W0 Os H (f b) k := by
  have h1 := h.bind
  cases g : KS.truth d with
  | ok b => rw [g] at h1; exact ⟨b, truth_ok g, h1⟩
  | exc c fs => exact (truth_noexc g).elim
  | bad => rw [g] at h1; exact h1.elim
theorem Res.bl {b : Bool} (h : Res G W0 Os H σ env1 (.bl b) v H1) : v = .bl b := by
  obtain ⟨_, _, _, _, _, t⟩ := h; exact t.blV
/-- a test's reading -/
def tT (G : Sg) (A : E) : TT := tB (tE G A)
/-- e1 then, by its truth, one of two -/
theorem tE_cond {c : E} {f : Bool → Env → R (D × Env)} {W0 : Pr} {Os : Nat → Pr} {env : Env} {k : D × Env → Prop} (e : EnvOk G.K H W0 σ env Os)
    (h : Run G W0 Os H (evE G.C c env >>= fun p => KS.truth p.1 >>= fun b => f b p.2) k) {R : Bool → Hp → Prop}
    (hk : ∀ b env1 H1 (Os1 : Nat → Pr) (O1 : Pr), EnvOk G.K H1 (orP W0 O1) σ env1 Os1 → (∀ a, O1 a → ¬ W0 a) → Post H Os H1 Os1 O1 → Run G (orP W0 O1) Os1 H1 (f b env1) k → R b H1) : tT G c σ H R := by
  refine ⟨W0, Os, env, e, h.bind.mono fun p _ q v H1 res => ?_⟩
  obtain ⟨b, hb, q2⟩ := Run.truth q
  obtain ⟨d1, env1⟩ := p
  simp only at hb q2 res
  subst hb
  obtain ⟨Os1, O1, e1, dj, po, r1⟩ := res.then q2
  exact ⟨b, res.bl, hk b env1 H1 Os1 O1 e1 dj po r1⟩
theorem tE_and (h : tE G (.and A B) σ H Q) : tT G A σ H fun b H1 => if b = true then tE G B σ H1 Q else Q (.bl false) H1 := by
  obtain ⟨W0, Os, env, e, r⟩ := h
  refine tE_cond (f := fun b env => if b = true then evE G.C B env else .ok (.bl false, env)) e r fun b env1 H1 Os1 O1 e1 dj po r1 => ?_
  cases b with
  | true => exact ⟨_, Os1, env1, e1, Run.mono r1 fun p _ q v H' res => q v H' (res.seq e1 dj po)⟩
  | false => exact Run.okE (G := G) (W0 := orP W0 O1) (Os := Os1) (H := H1) r1 _ H1 ⟨Os1, O1, e1, dj, po, .bl⟩
theorem tE_or (h : tE G (.or A B) σ H Q) : tT G A σ H fun b H1 => if b = true then Q (.bl true) H1 else tE G B σ H1 Q := by
  obtain ⟨W0, Os, env, e, r⟩ := h
  refine tE_cond (f := fun b env => if b = true then .ok (.bl true, env) else evE G.C B env) e r fun b env1 H1 Os1 O1 e1 dj po r1 => ?_
  cases b with
  | false => exact ⟨_, Os1, env1, e1, Run.mono r1 fun p _ q v H' res => q v H' (res.seq e1 dj po)⟩
  | true => exact Run.okE (G := G) (W0 := orP W0 O1) (Os := Os1) (H := H1) r1 _ H1 ⟨Os1, O1, e1, dj, po, .bl⟩
theorem tE_ife {c : E} (h : tE G (.ife c A B) σ H Q) : tT G c σ H fun b H1 => if b = true then tE G A σ H1 Q else tE G B σ H1 Q := by
  obtain ⟨W0, Os, env, e, r⟩ := h
  refine tE_cond (f := fun b env => if b = true then evE G.C A env else evE G.C B env) e r fun b env1 H1 Os1 O1 e1 dj po r1 => ?_
  cases b with
  | true => exact ⟨_, Os1, env1, e1, Run.mono r1 fun p _ q v H' res => q v H' (res.seq e1 dj po)⟩
  | false => exact ⟨_, Os1, env1, e1, Run.mono r1 fun p _ q v H' res => q v H' (res.seq e1 dj po)⟩
/-! ### displays -/
theorem ResL.list {W0 : Pr} {Os : Nat → Pr} {ds : List D} {xs : List V} {p : Addr} {env' : Env} (h : ResL G W0 Os H σ env' ds xs H1) (hp : H1 p = none) : Res G W0 Os H σ env' (.lst true ds) (.ref p) (upd H1 p (.lst xs)) := by
  obtain ⟨Os', O, Ok, e, dj, po, hl, ht, hd, hs⟩ := h
  have sm : Same H1 (upd H1 p (.lst xs)) := same_upd hp
  have hO : ∀ a, a = p → H1 a = none ∧ upd H1 p (.lst xs) a ≠ none := fun a z => by subst z; exact ⟨hp, by rw [upd_same]; simp⟩
  have e2 := e.alloc (W0 := orP W0 O) (O := fun a => a = p) sm (fun _ z => z) hO
  refine ⟨Os', orP O fun a => a = p, e2.reassoc, fun a z => z.elim (dj a) fun z q => by subst z; exact e.lv0 a (.inl q) hp, ?_, ?_⟩
  · refine po.trans (O2 := fun a => H1 a = none) ⟨fun a o z m => sm _ _ z, fun a z => z.elim .inl .inr⟩ (fun a z => z.elim (fun z => .inr (.inl z)) fun z => .inr (.inr (hO a z).1)) fun a z => po.sub a z
  · refine .lstO (Os := Ok) upd_same (.inr rfl) hl (fun i x d h1 h2 => ?_) hd fun i a z => ⟨.inl (hs i a z), fun q => ?_⟩
    · refine (ht i d x h2 h1).keep (M := fun _ => False) (Keep.of_same sm) (fun _ z => z.elim) (fun _ z => z.elim) fun a z => ?_
      rcases z with (z | (z | z)) | z
      · exact .inl (.inl (.inl z))
      · exact .inl (.inl (.inr z))
      · exact .inr (by subst z; exact hp)
      · exact .inl (.inr z)
    · subst q
      exact e.lv0 a (.inr (hs i a z)) hp
theorem ResL.tuple {W0 : Pr} {Os : Nat → Pr} {ds : List D} {xs : List V} {p : Addr} {env' : Env} (h : ResL G W0 Os H σ env' ds xs H1) (hp : H1 p = none) : Res G W0 Os H σ env' (.tup ds) (.ref p) (upd H1 p (.tup xs)) := by
  obtain ⟨Os', O, Ok, e, dj, po, hl, ht, hd, hs⟩ := h
  have sm : Same H1 (upd H1 p (.tup xs)) := same_upd hp
  refine ⟨Os', O, e.same sm, dj, ?_, ?_⟩
  · exact ⟨fun a o z m => sm _ _ (po.keep a o z m), po.sub⟩
  · exact .tup (Os := Ok) upd_same hl (fun i x d h1 h2 => (ht i d x h2 h1).same sm) hd fun i a z => hs i a z
theorem tE_lst (h : tE G (.lst A) σ H Q) : tLst (tL G A) σ H Q := by
  obtain ⟨W0, Os, env, e, r⟩ := h
  have r' : Run G W0 Os H (evL G.C A env >>= fun p => if decide (p.1.length ≤ line) = true then R.ok (D.lst true p.1, p.2) else .bad) _ := r
  refine ⟨W0, Os, env, e, r'.bind.mono fun p _ q xs H1 res => ?_⟩
  obtain ⟨g, q⟩ := q.guard
  have hl : xs.length = p.1.length := by obtain ⟨_, _, _, _, _, _, hl, _⟩ := res; exact hl
  exact ⟨by rw [hl, ← line_eq]; exact of_decide_eq_true g, fun a ha => Run.okE (G := G) (W0 := W0) (Os := Os) (H := H) q _ _ (res.list ha)⟩
theorem tE_tup (h : tE G (.tup A) σ H Q) : tTup (tL G A) σ H Q := by
  obtain ⟨W0, Os, env, e, r⟩ := h
  have r' : Run G W0 Os H (evL G.C A env >>= fun p => if decide (p.1.length ≤ line) = true then R.ok (D.tup p.1, p.2) else .bad) _ := r
  refine ⟨W0, Os, env, e, r'.bind.mono fun p _ q xs H1 res => ?_⟩
  obtain ⟨g, q⟩ := q.guard
  have hl : xs.length = p.1.length := by obtain ⟨_, _, _, _, _, _, hl, _⟩ := res; exact hl
  exact ⟨by rw [hl, ← line_eq]; exact of_decide_eq_true g, fun a ha => Run.okE (G := G) (W0 := W0) (Os := Os) (H := H) q _ _ (res.tuple ha)⟩
end
end KS
set_option linter.all false
set_option autoImplicit false
set_option maxRecDepth 100000
namespace KS
open PySem PySem.Spec PyProof.Rows L2

/-- an iterator that walks the things xs: P W k H R: at turn k in the heap H, R reserved for what is left, W all that is owned -/
structure Wk (K : PySem.W.Frag) (J : It) (xs : List D) (P : Pr → Nat → Hp → Pr → Prop) : Prop where
  keep : ∀ {W W' : Pr} {k : Nat} {H H' : Hp} {R M : Pr}, P W k H R → Keep H H' M → (∀ a, M a → W a) → (∀ a, M a → ¬ R a) → (∀ a, W' a → W a ∨ H a = none) → P W' k H' R
  go : ∀ {W : Pr} {k : Nat} {H : Hp} {R : Pr}, P W k H R → k < xs.length → J.go k H
  stop : ∀ {W : Pr} {k : Nat} {H : Hp} {R : Pr}, P W k H R → k = xs.length → J.stop k H
  yld : ∀ {W : Pr} {k : Nat} {H H' : Hp} {R : Pr} {x : V} {d : D}, P W k H R → xs[k]? = some d → J.yld k H x H' →
    ∃ O R' : Pr, Same H H' ∧ Tr K H' W d x O ∧ P W (k + 1) H' R' ∧ (∀ a, O a → R a) ∧ (∀ a, R' a → R a) ∧ ∀ a, O a → ¬ R' a

section
variable {K : PySem.W.Frag} {H H' : Hp} {W W' O M : Pr}
/-- a list at a: its cell is reserved or shared, its things from k on stand -/
def PSeq (K : PySem.W.Frag) (a : Addr) (us : List V) (xs : List D) : Pr → Nat → Hp → Pr → Prop := fun W k H R =>
  H a = some (.lst us) ∧ (R a ∨ ¬ W a) ∧ us.length = xs.length ∧ ∃ Ok : Nat → Pr,
    (∀ (j : Nat) (u : V) (d : D), k ≤ j → us[j]? = some u → xs[j]? = some d → Tr K H W d u (Ok j)) ∧
    (∀ (i j : Nat) (p : Addr), i ≠ j → Ok i p → ¬ Ok j p) ∧ ∀ (j : Nat) (p : Addr), k ≤ j → Ok j p → R p ∧ p ≠ a
theorem PSeq.keep {a : Addr} {us : List V} {xs : List D} {k : Nat} {R : Pr} (h : PSeq K a us xs W k H R) (kp : Keep H H' M) (hM : ∀ a, M a → W a) (hR : ∀ a, M a → ¬ R a) (hW : ∀ a, W' a → W a ∨ H a = none) : PSeq K a us xs W' k H' R := by
  obtain ⟨h1, h2, h3, Ok, h4, h5, h6⟩ := h
  refine ⟨kp a _ h1 fun m => ?_, h2.imp id (fun n z => (hW a z).elim n fun q => by rw [h1] at q; cases q), h3, Ok, fun j u d hj q1 q2 => ?_, h5, h6⟩
  · rcases h2 with z | z
    · exact absurd z (hR a m)
    · exact absurd (hM a m) z
  · exact (h4 j u d hj q1 q2).keep kp hM (fun p m z => hR p m (h6 j p hj z).1) hW
theorem wk_seq (a : Addr) (us : List V) (xs : List D) : Wk K (Itl K a) xs (PSeq K a us xs) where
  keep := fun h kp hM hR hW => h.keep kp hM hR hW
  go := fun {W k H R} h hk => by
    obtain ⟨h1, h2, h3, _⟩ := h
    exact ⟨us, us[k]'(by omega), SqL.of h1, List.getElem?_eq_getElem (by omega)⟩
  stop := fun {W k H R} h hk => by
    obtain ⟨h1, h2, h3, _⟩ := h
    exact ⟨us, SqL.of h1, by omega⟩
  yld := fun {W k H H' R x d} h hd hy => by
    obtain ⟨h1, h2, h3, Ok, h4, h5, h6⟩ := h
    obtain ⟨rfl, hy⟩ := hy
    have hx := hy us (SqL.of h1)
    refine ⟨Ok k, fun p => R p ∧ ¬ Ok k p, Same.refl _, h4 k x d (Nat.le_refl _) hx hd, ⟨h1, ?_, h3, Ok, fun j u d hj => h4 j u d (by omega), h5, fun j p hj z => ⟨⟨(h6 j p (by omega) z).1, fun q => h5 k j p (by omega) q z⟩, (h6 j p (by omega) z).2⟩⟩, fun p z => (h6 k p (Nat.le_refl _) z).1, fun p z => z.1, fun p z q => q.2 z⟩
    exact h2.imp (fun z => ⟨z, fun q => (h6 k a (Nat.le_refl _) q).2 rfl⟩) id
/-- the same for a tuple -/
def PTup (K : PySem.W.Frag) (a : Addr) (us : List V) (xs : List D) : Pr → Nat → Hp → Pr → Prop := fun W k H R =>
  H a = some (.tup us) ∧ us.length = xs.length ∧ ∃ Ok : Nat → Pr,
    (∀ (j : Nat) (u : V) (d : D), k ≤ j → us[j]? = some u → xs[j]? = some d → Tr K H W d u (Ok j)) ∧
    (∀ (i j : Nat) (p : Addr), i ≠ j → Ok i p → ¬ Ok j p) ∧ ∀ (j : Nat) (p : Addr), k ≤ j → Ok j p → R p
theorem wk_tup (a : Addr) (us : List V) (xs : List D) : Wk K (Itt K a) xs (PTup K a us xs) where
  keep := fun {W W' k H H' R M} h kp hM hR hW => by
    obtain ⟨h1, h3, Ok, h4, h5, h6⟩ := h
    exact ⟨kp.tup h1, h3, Ok, fun j u d hj q1 q2 => (h4 j u d hj q1 q2).keep kp hM (fun p m z => hR p m (h6 j p hj z)) hW, h5, h6⟩
  go := fun {W k H R} h hk => by
    obtain ⟨h1, h3, _⟩ := h
    exact ⟨us, us[k]'(by omega), SqT.of h1, List.getElem?_eq_getElem (by omega)⟩
  stop := fun {W k H R} h hk => by
    obtain ⟨h1, h3, _⟩ := h
    exact ⟨us, SqT.of h1, by omega⟩
  yld := fun {W k H H' R x d} h hd hy => by
    obtain ⟨h1, h3, Ok, h4, h5, h6⟩ := h
    obtain ⟨rfl, hy⟩ := hy
    have hx := hy us (SqT.of h1)
    exact ⟨Ok k, fun p => R p ∧ ¬ Ok k p, Same.refl _, h4 k x d (Nat.le_refl _) hx hd, ⟨h1, h3, Ok, fun j u d hj => h4 j u d (by omega), h5, fun j p hj z => ⟨h6 j p (by omega) z, fun q => h5 k j p (by omega) q z⟩⟩, fun p z => h6 k p (Nat.le_refl _) z, fun p z => z.1, fun p z q => q.2 z⟩
theorem rangeD_get {lo c : Int} {n k : Nat} {d : D} (h : (rangeD lo c n)[k]? = some d) : k < n ∧ d = .int (lo + (k : Int) * c) := by
  unfold rangeD at h
  obtain ⟨m, hm, rfl⟩ := getF h
  have hk := (List.getElem?_eq_some_iff.mp hm).1
  rw [List.length_range] at hk
  rw [List.getElem?_range hk] at hm
  cases hm
  exact ⟨hk, rfl⟩
theorem rangeD_len (lo c : Int) (n : Nat) : (rangeD lo c n).length = n := by unfold rangeD; simp
theorem wk_rng (lo : Int) (n : Nat) : Wk K (Itr lo n) (rangeD lo 1 n) (fun _ k _ _ => k ≤ n) where
  keep := fun h _ _ _ _ => h
  go := fun {W k H R} h hk => by rw [rangeD_len] at hk; exact hk
  stop := fun {W k H R} h hk => by rw [rangeD_len] at hk; exact Nat.le_of_eq hk.symm
  yld := fun {W k H H' R x d} h hd hy => by
    obtain ⟨h1, rfl⟩ := rangeD_get hd
    obtain ⟨rfl, rfl⟩ := hy
    refine ⟨fun _ => False, R, Same.refl _, ?_, h1, fun _ z => z.elim, fun _ z => z, fun _ z => z.elim⟩
    rw [Int.mul_one]; exact .int
theorem wk_rngC (lo c : Int) (n : Nat) : Wk K (Itc lo c n) (rangeD lo c n) (fun _ k _ _ => k ≤ n) where
  keep := fun h _ _ _ _ => h
  go := fun {W k H R} h hk => by rw [rangeD_len] at hk; exact hk
  stop := fun {W k H R} h hk => by rw [rangeD_len] at hk; exact Nat.le_of_eq hk.symm
  yld := fun {W k H H' R x d} h hd hy => by
    obtain ⟨h1, rfl⟩ := rangeD_get hd
    obtain ⟨rfl, rfl⟩ := hy
    exact ⟨fun _ => False, R, Same.refl _, .int, h1, fun _ z => z.elim, fun _ z => z, fun _ z => z.elim⟩
theorem Tr.pair {T : Addr} {d1 d2 : D} {x y : V} {O1 O2 : Pr} (t1 : Tr K H W d1 x O1) (t2 : Tr K H W d2 y O2) (hT : H T = none) (hd : ∀ p, O1 p → ¬ O2 p) : Tr K (upd H T (.tup [x, y])) W (.tup [d1, d2]) (.ref T) (fun p => O1 p ∨ O2 p) := by
  have sm : Same H (upd H T (.tup [x, y])) := same_upd hT
  refine .tup (Os := fun i => match i with | 0 => O1 | 1 => O2 | _ => fun _ => False) upd_same rfl (fun i u d h1 h2 => ?_) (fun i j p hij z1 z2 => ?_) fun i p z => ?_
  · match i with
    | 0 => cases h1; cases h2; exact t1.same sm
    | 1 => cases h1; cases h2; exact t2.same sm
    | i + 2 => simp at h1
  · match i, j with
    | 0, 0 => exact hij rfl
    | 0, 1 => exact hd p z1 z2
    | 1, 0 => exact hd p z2 z1
    | 1, 1 => exact hij rfl
    | i + 2, _ => exact z1
    | 0, j + 2 => exact z2
    | 1, j + 2 => exact z2
  · match i with
    | 0 => exact .inl z
    | 1 => exact .inr z
    | i + 2 => exact z.elim
theorem zipIdx_get {xs : List D} {k : Nat} {d : D} (h : (xs.zipIdx.map fun p => D.tup [.int p.2, p.1])[k]? = some d) : ∃ x, xs[k]? = some x ∧ d = .tup [.int k, x] := by
  obtain ⟨p, hp, rfl⟩ := getF h
  rw [List.getElem?_zipIdx] at hp
  cases e : xs[k]? with
  | none => rw [e] at hp; cases hp
  | some x => rw [e] at hp; cases hp; exact ⟨x, rfl, by simp⟩
theorem wk_enum (a : Addr) (us : List V) (xs : List D) : Wk K (Ite K a) (xs.zipIdx.map fun p => D.tup [.int p.2, p.1]) (PSeq K a us xs) where
  keep := fun h kp hM hR hW => h.keep kp hM hR hW
  go := fun {W k H R} h hk => by
    obtain ⟨h1, h2, h3, _⟩ := h
    simp at hk
    exact ⟨us, us[k]'(by omega), SqL.of h1, List.getElem?_eq_getElem (by omega)⟩
  stop := fun {W k H R} h hk => by
    obtain ⟨h1, h2, h3, _⟩ := h
    simp at hk
    exact ⟨us, SqL.of h1, by omega⟩
  yld := fun {W k H H' R x d} h hd hy => by
    obtain ⟨d', hd', rfl⟩ := zipIdx_get hd
    obtain ⟨T, u, rfl, hT, rfl, hu⟩ := hy
    have h0 := h
    obtain ⟨h1, h2, h3, Ok, h4, h5, h6⟩ := h0
    have hx := hu us (SqL.of h1)
    have t := h4 k u d' (Nat.le_refl _) hx hd'
    have sm : Same H (upd H T (.tup [.int (k : Nat), u])) := same_upd hT
    refine ⟨Ok k, fun p => R p ∧ ¬ Ok k p, sm, ((Tr.int (O := fun _ => False)).pair t hT fun _ z => z.elim).mono fun p z => z.elim (fun z => z.elim) id, ?_, fun p z => (h6 k p (Nat.le_refl _) z).1, fun p z => z.1, fun p z q => q.2 z⟩
    refine ⟨sm _ _ h1, h2.imp (fun z => ⟨z, fun q => (h6 k a (Nat.le_refl _) q).2 rfl⟩) id, h3, Ok, fun j u d hj q1 q2 => (h4 j u d (by omega) q1 q2).same sm, h5, fun j p hj z => ⟨⟨(h6 j p (by omega) z).1, fun q => h5 k j p (by omega) q z⟩, (h6 j p (by omega) z).2⟩⟩
theorem zipW_get {xs ys : List D} {k : Nat} {d : D} (h : (List.zipWith (fun x y => D.tup [x, y]) xs ys)[k]? = some d) : ∃ x y, xs[k]? = some x ∧ ys[k]? = some y ∧ d = .tup [x, y] := by
  rw [List.getElem?_zipWith] at h
  cases e1 : xs[k]? with
  | none => rw [e1] at h; cases h
  | some x =>
    cases e2 : ys[k]? with
    | none => rw [e1, e2] at h; cases h
    | some y => rw [e1, e2] at h; cases h; exact ⟨x, y, rfl, rfl, rfl⟩
theorem wk_zip (a b : Addr) (us ws : List V) (xs ys : List D) : Wk K (Itz K a b) (List.zipWith (fun x y => D.tup [x, y]) xs ys)
    (fun W k H R => ∃ R1 R2 : Pr, PSeq K a us xs W k H R1 ∧ PSeq K b ws ys W k H R2 ∧ (∀ p, R1 p → R p) ∧ (∀ p, R2 p → R p) ∧ ∀ p, R1 p → ¬ R2 p) where
  keep := fun ⟨R1, R2, h1, h2, s1, s2, d⟩ kp hM hR hW => ⟨R1, R2, h1.keep kp hM (fun p m z => hR p m (s1 p z)) hW, h2.keep kp hM (fun p m z => hR p m (s2 p z)) hW, s1, s2, d⟩
  go := fun {W k H R} ⟨R1, R2, h1, h2, s1, s2, d⟩ hk => by
    rw [List.length_zipWith] at hk
    obtain ⟨p1, _, p3, _⟩ := h1
    obtain ⟨q1, _, q3, _⟩ := h2
    exact ⟨us, ws, us[k]'(by omega), ws[k]'(by omega), SqL.of p1, SqL.of q1, List.getElem?_eq_getElem (by omega), List.getElem?_eq_getElem (by omega)⟩
  stop := fun {W k H R} ⟨R1, R2, h1, h2, s1, s2, d⟩ hk => by
    rw [List.length_zipWith] at hk
    obtain ⟨p1, _, p3, _⟩ := h1
    obtain ⟨q1, _, q3, _⟩ := h2
    exact ⟨us, ws, SqL.of p1, SqL.of q1, by omega⟩
  yld := fun {W k H H' R x d} ⟨R1, R2, h1, h2, s1, s2, dj⟩ hd hy => by
    obtain ⟨dx, dy, e1, e2, rfl⟩ := zipW_get hd
    obtain ⟨T, u, w, rfl, hT, rfl, hu, hw⟩ := hy
    obtain ⟨p1, p2, p3, Ok, p4, p5, p6⟩ := h1
    obtain ⟨q1, q2, q3, Oj, q4, q5, q6⟩ := h2
    have t1 := p4 k u dx (Nat.le_refl _) (hu us (SqL.of p1)) e1
    have t2 := q4 k w dy (Nat.le_refl _) (hw ws (SqL.of q1)) e2
    have sm : Same H (upd H T (.tup [u, w])) := same_upd hT
    have r1 : ∀ p, Ok k p → R1 p := fun p z => (p6 k p (Nat.le_refl _) z).1
    have r2 : ∀ p, Oj k p → R2 p := fun p z => (q6 k p (Nat.le_refl _) z).1
    refine ⟨fun p => Ok k p ∨ Oj k p, fun p => (R1 p ∧ ¬ Ok k p) ∨ (R2 p ∧ ¬ Oj k p), sm, t1.pair t2 hT fun p z q => dj p (r1 p z) (r2 p q), ⟨fun p => R1 p ∧ ¬ Ok k p, fun p => R2 p ∧ ¬ Oj k p, ?_, ?_, fun p z => .inl z, fun p z => .inr z, fun p z q => dj p z.1 q.1⟩, fun p z => z.elim (fun z => s1 p (r1 p z)) fun z => s2 p (r2 p z), fun p z => z.elim (fun z => s1 p z.1) fun z => s2 p z.1, fun p z q => ?_⟩
    · exact ⟨sm _ _ p1, p2.imp (fun z => ⟨z, fun q => (p6 k a (Nat.le_refl _) q).2 rfl⟩) id, p3, Ok, fun j u d hj h1 h2 => (p4 j u d (by omega) h1 h2).same sm, p5, fun j p hj z => ⟨⟨(p6 j p (by omega) z).1, fun q => p5 k j p (by omega) q z⟩, (p6 j p (by omega) z).2⟩⟩
    · exact ⟨sm _ _ q1, q2.imp (fun z => ⟨z, fun q => (q6 k b (Nat.le_refl _) q).2 rfl⟩) id, q3, Oj, fun j u d hj h1 h2 => (q4 j u d (by omega) h1 h2).same sm, q5, fun j p hj z => ⟨⟨(q6 j p (by omega) z).1, fun q => q5 k j p (by omega) q z⟩, (q6 j p (by omega) z).2⟩⟩
    · rcases z with z | z
      · rcases q with q | q
        · exact q.2 z
        · exact dj p (r1 p z) q.1
      · rcases q with q | q
        · exact dj p q.1 (r2 p z)
        · exact q.2 z
end

/-! ### what a loop walks: its reading -/
def ResI (G : Sg) (W0 : Pr) (Os : Nat → Pr) (H : Hp) (σ : L2.St) (env' : Env) (xs : List D) (J : It) (H' : Hp) : Prop :=
  ∃ (Os' : Nat → Pr) (O : Pr) (P : Pr → Nat → Hp → Pr → Prop), EnvOk G.K H' (orP W0 O) σ env' Os' ∧ (∀ a, O a → ¬ W0 a) ∧ Post H Os H' Os' O ∧ Wk G.K J xs P ∧ P (EW (orP W0 O) Os') 0 H' O
def evI (C : Ctx) (k : IK) (es : E) (env : Env) : R (List D × Env) := evL C es env >>= fun p => items k p.1 >>= fun xs => .ok (xs, p.2)
def tI (G : Sg) (k : IK) (es : E) : TI := fun σ H Q => ∃ (W0 : Pr) (Os : Nat → Pr) (env : Env), EnvOk G.K H W0 σ env Os ∧
  Run G W0 Os H (evI G.C k es env) fun p => ∀ J H', ResI G W0 Os H σ p.2 p.1 J H' → Q J H'
section
variable {G : Sg} {W0 W1 O O1 : Pr} {Os Os1 Os' : Nat → Pr} {H H1 H' : Hp} {σ : L2.St} {env env1 env' : Env} {es : E} {Q : It → Hp → Prop} {k : IK}
theorem items_noexc {ds : List D} {c : Str} {fs : List D} : items k ds ≠ .exc c fs := by
  unfold items
  cases k <;> dsimp only
  · unfold itSeq; split <;> (intro h; cases h)
  · unfold itR1; split <;> (try split) <;> (intro h; cases h)
  · unfold itR2; split <;> (try split) <;> (intro h; cases h)
  · unfold itR3; split <;> (try split) <;> (intro h; cases h)
  · unfold itEnum; split <;> (intro h; cases h)
  · unfold itZip; split <;> (intro h; cases h)
  · intro h; cases h
  · intro h; cases h
/-- from the reading of the iterable's parts to the walk -/
theorem tI_of (h : tI G k es σ H Q) {R : List V → Hp → Prop} (hR : ∀ (W0 : Pr) (Os : Nat → Pr) env1 ds xs vs H1, items k ds = .ok xs → ResL G W0 Os H σ env1 ds vs H1 → (∀ J, ResI G W0 Os H σ env1 xs J H1 → Q J H1) → R vs H1) : tL G es σ H R := by
  obtain ⟨W0, Os, env, e, r⟩ := h
  unfold evI at r
  refine ⟨W0, Os, env, e, r.bind.mono fun p _ q vs H1 res => ?_⟩
  have q1 := q.bind
  cases g : items k p.1 with
  | exc c fs => exact (items_noexc g).elim
  | bad => rw [g] at q1; exact q1.elim
  | ok xs =>
    rw [g] at q1
    exact hR W0 Os p.2 p.1 xs vs H1 g res fun J z => Run.okE (G := G) (W0 := W0) (Os := Os) (H := H) q1 J H1 z
theorem tL_mono {A : E} {QA QA' : List V → Hp → Prop} (h : tL G A σ H QA) (hq : ∀ v H', QA v H' → QA' v H') : tL G A σ H QA' := by
  obtain ⟨W0, Os, env, e, r⟩ := h
  exact ⟨W0, Os, env, e, r.mono fun p _ q v H' z => hq v H' (q v H' z)⟩
/-- a list in an argument list: its walk -/
theorem ResL.pseq {ds : List D} {vs : List V} {i : Nat} {o : Bool} {xs : List D} (h : ResL G W0 Os H σ env1 ds vs H1) (hd : ds[i]? = some (.lst o xs)) :
    ∃ (Os' : Nat → Pr) (O : Pr) (Ok : Nat → Pr), EnvOk G.K H1 (orP W0 O) σ env1 Os' ∧ (∀ a, O a → ¬ W0 a) ∧ Post H Os H1 Os' O ∧ vs.length = ds.length ∧
      (∀ (k : Nat) (d : D) (v : V), ds[k]? = some d → vs[k]? = some v → Tr G.K H1 (EW (orP W0 O) Os') d v (Ok k)) ∧ (∀ (i j : Nat) (a : Addr), i ≠ j → Ok i a → ¬ Ok j a) ∧ (∀ (k : Nat) (a : Addr), Ok k a → O a) ∧
      ∃ a us, vs[i]? = some (.ref a) ∧ H1 a = some (.lst us) ∧ PSeq G.K a us xs (EW (orP W0 O) Os') 0 H1 (Ok i) := by
  obtain ⟨Os', O, Ok, e, dj, po, hl, ht, hdj, hs⟩ := h
  refine ⟨Os', O, Ok, e, dj, po, hl, ht, hdj, hs, ?_⟩
  have hi : i < vs.length := by rw [hl]; exact (List.getElem?_eq_some_iff.mp hd).1
  have hv := List.getElem?_eq_getElem hi
  have t := ht i _ _ hd hv
  generalize vs[i] = v at hv t
  cases t with
  | lstS a c f => exact ⟨_, _, hv, a.1, a.1, .inr a.2, c, fun _ _ => False, fun j u d _ h1 h2 => f j u d h1 h2, fun _ _ _ _ z => z.elim, fun _ _ _ z => z.elim⟩
  | lstO a b c f g h => exact ⟨_, _, hv, a, a, .inl b, c, _, fun j u d _ h1 h2 => f j u d h1 h2, g, fun j p _ z => h j p z⟩
theorem PSeq.moreR {K : PySem.W.Frag} {a : Addr} {us : List V} {xs : List D} {k : Nat} {R R' W : Pr} (h : PSeq K a us xs W k H R) (hr : ∀ p, R p → R' p) : PSeq K a us xs W k H R' := by
  obtain ⟨h1, h2, h3, Ok, h4, h5, h6⟩ := h
  exact ⟨h1, h2.imp (hr a) id, h3, Ok, h4, h5, fun j p hj z => ⟨hr p (h6 j p hj z).1, (h6 j p hj z).2⟩⟩
/-- for x in a list or a tuple -/
def iSeq (K : PySem.W.Frag) (tl : TE) : TI := fun σ H R => tl σ H fun x H1 => ∃ a, x = .ref a ∧ (((∃ xs, H1 a = some (.lst xs)) ∧ R (Itl K a) H1) ∨ ((∃ xs, H1 a = some (.tup xs)) ∧ R (Itt K a) H1))
theorem tI_seq {A : E} (h : tI G .seq (.cons A .nil) σ H Q) : iSeq G.K (tE G A) σ H Q := by
  refine tE_mono (tL_cons (tI_of h (R := fun vs H1 => ∃ x, vs = [x] ∧ ∃ a, x = .ref a ∧ (((∃ xs, H1 a = some (.lst xs)) ∧ Q (Itl G.K a) H1) ∨ ((∃ xs, H1 a = some (.tup xs)) ∧ Q (Itt G.K a) H1))) fun W0 Os env1 ds xs vs H1 hi res hq => ?_)) fun x H1 z => ?_
  · simp only [items] at hi
    unfold itSeq at hi
    split at hi
    · cases hi
      have hl : vs.length = 1 := by obtain ⟨_, _, _, _, _, _, hl, _⟩ := res; exact hl
      obtain ⟨Os', O, Ok, e, dj, po, _, ht, hdj, hs, a, us, hv, ha, ps⟩ := res.pseq (i := 0) rfl
      obtain ⟨x, rfl⟩ := one_of (d := .non) hl
      simp at hv; subst hv
      exact ⟨_, rfl, a, rfl, .inl ⟨⟨us, ha⟩, hq _ ⟨Os', O, _, e, dj, po, wk_seq a us _, ps.moreR (hs 0)⟩⟩⟩
    · cases hi
      obtain ⟨Os', O, Ok, e, dj, po, hl, ht, hdj, hs⟩ := res
      obtain ⟨x, rfl⟩ := one_of (d := .non) hl
      have t := ht 0 _ x rfl rfl
      cases t with
      | tup a c f g h =>
        exact ⟨_, rfl, _, rfl, .inr ⟨⟨_, a⟩, hq _ ⟨Os', O, _, e, dj, po, wk_tup _ _ _, a, c, _, fun j u d _ h1 h2 => f j u d h1 h2, g, fun j p _ z => hs 0 p (h j p z)⟩⟩⟩
    · cases hi
  · obtain ⟨y, e, r⟩ := tL_nil z
    cases e
    exact r
theorem rOk_iff {i : Int} (h : rOk i = true) : -(2 ^ 62) ≤ i ∧ i < 2 ^ 62 := by
  unfold rOk at h
  simpa only [Bool.and_eq_true, decide_eq_true_eq] using h
theorem ResL.plain {ds : List D} {vs : List V} (h : ResL G W0 Os H σ env1 ds vs H1) {J : It} {xs : List D} {P : Pr → Nat → Hp → Pr → Prop} (w : Wk G.K J xs P) (hP : ∀ W R, P W 0 H1 R) : ResI G W0 Os H σ env1 xs J H1 := by
  obtain ⟨Os', O, Ok, e, dj, po, hl, ht, hdj, hs⟩ := h
  exact ⟨Os', O, P, e, dj, po, w, hP _ _⟩
theorem tI_rng1 (h : tI G .rng1 es σ H Q) : iRng1 (tL G es) σ H Q := by
  refine tI_of h fun W0 Os env1 ds xs vs H1 hi res hq => ?_
  simp only [items] at hi
  unfold itR1 at hi
  split at hi
  · split at hi
    · rename_i j hc
      cases hi
      simp only [Bool.and_eq_true, decide_eq_true_eq] at hc
      have hl : vs.length = 1 := by obtain ⟨_, _, _, _, _, _, hl, _⟩ := res; exact hl
      obtain ⟨x, rfl⟩ := one_of (d := .non) hl
      have e : x = .int j := by obtain ⟨_, _, _, _, _, _, _, ht, _⟩ := res; exact (ht 0 _ x rfl rfl).intV
      subst e
      obtain ⟨h1, h2⟩ := rOk_iff hc.1
      exact ⟨j, rfl, h1, h2, hq _ (res.plain (wk_rng 0 j.toNat) fun _ _ => Nat.zero_le _)⟩
    · cases hi
  · cases hi
theorem tI_rng2 (h : tI G .rng2 es σ H Q) : iRng2 (tL G es) σ H Q := by
  refine tI_of h fun W0 Os env1 ds xs vs H1 hi res hq => ?_
  simp only [items] at hi
  unfold itR2 at hi
  split at hi
  · split at hi
    · rename_i i j hc
      cases hi
      simp only [Bool.and_eq_true, decide_eq_true_eq] at hc
      have hl : vs.length = 2 := by obtain ⟨_, _, _, _, _, _, hl, _⟩ := res; exact hl
      obtain ⟨x, y, rfl⟩ := two_of (d1 := .non) (d2 := .non) hl
      have e : x = .int i ∧ y = .int j := by obtain ⟨_, _, _, _, _, _, _, ht, _⟩ := res; exact ⟨(ht 0 _ x rfl rfl).intV, (ht 1 _ y rfl rfl).intV⟩
      obtain ⟨rfl, rfl⟩ := e
      obtain ⟨h1, h2⟩ := rOk_iff hc.1.1
      obtain ⟨h3, h4⟩ := rOk_iff hc.1.2
      exact ⟨i, j, rfl, ⟨h1, h2, h3, h4⟩, hq _ (res.plain (wk_rng i (j - i).toNat) fun _ _ => Nat.zero_le _)⟩
    · cases hi
  · cases hi
theorem rangeN_eq {i j c : Int} (h : c ≠ 0) : Builtin.Range.rangeSize i j c = (rangeN i j c : Nat) := by
  unfold Builtin.Range.rangeSize rangeN
  by_cases h1 : 0 < c
  · rw [if_pos h1, if_pos h1]
    by_cases h2 : i < j
    · rw [if_pos h2, if_pos h2]
      have := Int.ediv_nonneg (show 0 ≤ j - i - 1 by omega) (Int.le_of_lt h1)
      omega
    · rw [if_neg h2, if_neg h2]; rfl
  · rw [if_neg (show ¬ c > 0 from h1), if_neg h1]
    by_cases h2 : j < i
    · rw [if_pos (show i > j from h2), if_pos h2]
      have := Int.ediv_nonneg (show 0 ≤ i - j - 1 by omega) (show 0 ≤ -c by omega)
      omega
    · rw [if_neg (show ¬ i > j from h2), if_neg h2]; rfl
theorem small_of {i j c : Int} (hi : i.natAbs < 2 ^ 40) (hj : j.natAbs < 2 ^ 40) (hc : c.natAbs < 1000000000) (h0 : c ≠ 0) (hn : rangeN i j c ≤ line) : Builtin.Range.small i j c = true := by
  unfold Builtin.Range.small
  rw [rangeN_eq h0]
  have hl : line = 16777216 := rfl
  have f : ∀ x : Int, -(2 ^ 62) < x → x < 2 ^ 62 → Builtin.Range.rangeFitsLong x = true := fun x h1 h2 => by
    unfold Builtin.Range.rangeFitsLong
    simp only [Bool.and_eq_true, decide_eq_true_eq]
    omega
  rw [f i (by omega) (by omega), f j (by omega) (by omega), f c (by omega) (by omega), f _ (by omega) (by omega)]
  simp only [Bool.true_and, Bool.or_eq_true]
  right
  split
  · exact f _ (by omega) (by omega)
  · exact f _ (by omega) (by omega)
theorem tI_rng3 (h : tI G .rng3 es σ H Q) : iRng3 (tL G es) σ H Q := by
  refine tI_of h fun W0 Os env1 ds xs vs H1 hi res hq => ?_
  simp only [items] at hi
  unfold itR3 at hi
  split at hi
  · split at hi
    · rename_i i j c hc
      cases hi
      simp only [Bool.and_eq_true, decide_eq_true_eq] at hc
      have hl : vs.length = 3 := by obtain ⟨_, _, _, _, _, _, hl, _⟩ := res; exact hl
      obtain ⟨x, y, z, rfl⟩ := three_of (d1 := .non) (d2 := .non) (d3 := .non) hl
      have e : x = .int i ∧ y = .int j ∧ z = .int c := by obtain ⟨_, _, _, _, _, _, _, ht, _⟩ := res; exact ⟨(ht 0 _ x rfl rfl).intV, (ht 1 _ y rfl rfl).intV, (ht 2 _ z rfl rfl).intV⟩
      obtain ⟨rfl, rfl, rfl⟩ := e
      exact ⟨i, j, c, rangeN i j c, rfl, ⟨hc.1.1.2, by omega, small_of hc.1.1.1.1 hc.1.1.1.2 hc.1.2 hc.1.1.2 hc.2, rangeN_eq hc.1.1.2⟩, hq _ (res.plain (wk_rngC i c (rangeN i j c)) fun _ _ => Nat.zero_le _)⟩
    · cases hi
  · cases hi
theorem tI_enum (h : tI G .enum es σ H Q) : iEnum G.K (tL G es) σ H Q := by
  refine tI_of h fun W0 Os env1 ds xs vs H1 hi res hq => ?_
  simp only [items] at hi
  unfold itEnum at hi
  split at hi
  · cases hi
    have hl : vs.length = 1 := by obtain ⟨_, _, _, _, _, _, hl, _⟩ := res; exact hl
    obtain ⟨Os', O, Ok, e, dj, po, _, ht, hdj, hs, a, us, hv, ha, ps⟩ := res.pseq (i := 0) rfl
    obtain ⟨x, rfl⟩ := one_of (d := .non) hl
    simp at hv; subst hv
    exact ⟨a, us, rfl, SqL.of ha, hq _ ⟨Os', O, _, e, dj, po, wk_enum a us _, ps.moreR (hs 0)⟩⟩
  · cases hi
theorem tI_zip (h : tI G .zip es σ H Q) : iZip G.K (tL G es) σ H Q := by
  refine tI_of h fun W0 Os env1 ds xs vs H1 hi res hq => ?_
  simp only [items] at hi
  unfold itZip at hi
  split at hi
  · cases hi
    have hl : vs.length = 2 := by obtain ⟨_, _, _, _, _, _, hl, _⟩ := res; exact hl
    obtain ⟨x, y, rfl⟩ := two_of (d1 := .non) (d2 := .non) hl
    obtain ⟨Os', O, Ok, e, dj, po, hl, ht, hdj, hs⟩ := res
    have t1 := ht 0 _ x rfl rfl
    have t2 := ht 1 _ y rfl rfl
    have ps : ∀ {u : V} {o : Bool} {zs : List D} {i : Nat}, Tr G.K H1 (EW (orP W0 O) Os') (.lst o zs) u (Ok i) → ∃ a us, u = .ref a ∧ H1 a = some (.lst us) ∧ PSeq G.K a us zs (EW (orP W0 O) Os') 0 H1 (Ok i) := by
      intro u o zs i t
      cases t with
      | lstS a c f => exact ⟨_, _, rfl, a.1, a.1, .inr a.2, c, fun _ _ => False, fun j u d _ h1 h2 => f j u d h1 h2, fun _ _ _ _ z => z.elim, fun _ _ _ z => z.elim⟩
      | lstO a b c f g h => exact ⟨_, _, rfl, a, a, .inl b, c, _, fun j u d _ h1 h2 => f j u d h1 h2, g, fun j p _ z => h j p z⟩
    obtain ⟨a, us, rfl, ha, p1⟩ := ps t1
    obtain ⟨b, ws, rfl, hb, p2⟩ := ps t2
    exact ⟨a, b, us, ws, rfl, SqL.of ha, SqL.of hb, hq _ ⟨Os', O, _, e, dj, po, wk_zip a b us ws _ _, Ok 0, Ok 1, p1, p2, hs 0, hs 1, fun p z => hdj 0 1 p (by decide) z⟩⟩
  · cases hi
end
end KS
set_option linter.all false
set_option autoImplicit false
set_option maxRecDepth 100000
namespace KS
open PySem PySem.Spec PyProof.Rows L2
/-- the three numbers of a range's arguments -/
def rgV : List V → Option (Int × Int × Int)
  | [.int j] => some (0, j, 1)
  | [.int i, .int j] => some (i, j, 1)
  | [.int i, .int j, .int c] => some (i, j, c)
  | _ => none
def rgL (a c : Int) (n : Nat) : List V := (List.range n).map fun (i : Nat) => V.int (a + (i : Int) * c)
structure RgF (a b c : Int) (n : Nat) : Prop where
  c0 : c ≠ 0
  cs : c.natAbs < 1073741824
  sm : Builtin.Range.small a b c = true
  sz : Builtin.Range.rangeSize a b c = n
  le : n ≤ 2 ^ 24
theorem rgData_ok {ds : List D} {a b c : Int} {n : Nat} (h : rgData ds = some (a, b, c, n)) : RgF a b c n := by
  have hl : (line : Int) = 16777216 := rfl
  unfold rgData at h
  split at h
  · split at h
    · rename_i j hc
      cases h
      simp only [Bool.and_eq_true, decide_eq_true_eq] at hc
      obtain ⟨h1, h2⟩ := rOk_iff hc.1
      exact ⟨by decide, by decide, small_one (by omega) (by omega) h1 h2, by rw [rangeSize_nat]; simp, by omega⟩
    · cases h
  · split at h
    · rename_i i j hc
      cases h
      simp only [Bool.and_eq_true, decide_eq_true_eq] at hc
      obtain ⟨h1, h2⟩ := rOk_iff hc.1.1
      obtain ⟨h3, h4⟩ := rOk_iff hc.1.2
      exact ⟨by decide, by decide, small_one h1 h2 h3 h4, rangeSize_nat _ _, by omega⟩
    · cases h
  · split at h
    · rename_i i j k hc
      cases h
      simp only [Bool.and_eq_true, decide_eq_true_eq] at hc
      have hl2 : line = 16777216 := rfl
      exact ⟨hc.1.1.2, by omega, small_of hc.1.1.1.1 hc.1.1.1.2 hc.1.2 hc.1.1.2 hc.2, rangeN_eq hc.1.1.2, by omega⟩
    · cases h
  · cases h
def rLrng : List V → Hp → VK → Prop := fun vs H Q => ∃ a b c n, rgV vs = some (a, b, c) ∧ RgF a b c n ∧ ∀ q, H q = none → Q (.ref q) (upd H q (.lst (rgL a c n)))
section
variable {G : Sg} {X : Cx}
theorem rangeD_tr {K : PySem.W.Frag} {H : Hp} {W : Pr} {a c : Int} {n : Nat} {q : Addr} (hq : H q = none) : Tr K (upd H q (.lst (rgL a c n))) W (.lst true (rangeD a c n)) (.ref q) fun p => p = q := by
  refine .lstO (Os := fun _ _ => False) upd_same rfl (by unfold rgL rangeD; simp) (fun i x d h1 h2 => ?_) (fun _ _ _ _ z => z.elim) fun _ _ z => z.elim
  obtain ⟨hi, rfl⟩ := rangeD_get h2
  unfold rgL at h1
  rw [List.getElem?_map, List.getElem?_range hi] at h1
  cases h1
  exact .int
theorem pr_lrng : PrimR G .lrng rLrng := by
  intro W ds vs d H Q hl ht hpr hq
  simp only [prim] at hpr
  unfold pLrng at hpr
  split at hpr
  · rename_i a b c n hd
    cases hpr
    refine ⟨a, b, c, n, ?_, rgData_ok hd, fun q hqn => hq _ _ (fun p => p = q) (same_upd hqn) (rangeD_tr hqn) fun p z => by subst z; exact ⟨hqn, by rw [upd_same]; simp⟩⟩
    have val : ∀ (k : Nat) (i : Int) (v : V), ds[k]? = some (.int i) → vs[k]? = some v → v = .int i := fun k i v h1 h2 => by
      obtain ⟨_, t⟩ := ht k _ v h1 h2
      exact t.intV
    unfold rgData at hd
    split at hd
    · split at hd
      · cases hd
        obtain ⟨x, rfl⟩ := one_of hl
        rw [val 0 _ x rfl rfl]; rfl
      · cases hd
    · split at hd
      · cases hd
        obtain ⟨x, y, rfl⟩ := two_of hl
        rw [val 0 _ x rfl rfl, val 1 _ y rfl rfl]; rfl
      · cases hd
    · split at hd
      · cases hd
        obtain ⟨x, y, z, rfl⟩ := three_of hl
        rw [val 0 _ x rfl rfl, val 1 _ y rfl rfl, val 2 _ z rfl rfl]; rfl
      · cases hd
    · cases hd
  · cases hpr
theorem rgL_vals {a c : Int} {n : Nat} {acc : Array Value} (h : ItemsOf (fun i v => ∃ t, v = .int (a + i * c) t) acc n) : Vals (rgL a c n) acc.toList := by
  have hl : acc.toList.length = n := by rw [Array.length_toList]; exact h.1
  unfold rgL
  rw [← hl]
  exact L2.vals_of_get acc.toList _ fun j u hj => by
    obtain ⟨t, rfl⟩ := h.2 j u (by rw [← hj, Array.getElem?_toList])
    exact ⟨t, rfl⟩
theorem Vals.uncons {v : V} {vs : List V} {us : List Value} (r : Vals (v :: vs) us) : ∃ u ws, us = u :: ws ∧ RelV v u ∧ Vals vs ws := by
  cases r with
  | cons a b => exact ⟨_, _, rfl, a, b⟩
/-- a call of range with these values -/
theorem range_call {pins : List (Addr × Obj)} {s : Shared} {σ : L2.St} {H : Hp} {vs : List V} {us : List Value} {a b c : Int} {n : Nat} {Q : Value → Shared → Prop} {E : Value → Shared → Prop} (I : Inv X pins σ H s) (r : Vals vs us) (hv : rgV vs = some (a, b, c)) (ok : RgF a b c n)
    (hQ : ∀ p s2 t u v, IsRange s2.heap p a b c t u v → Inv X pins σ H s2 → Q (.ref p) s2) : wpAny (model X.prog X.w) X.A (call (.type "range") us) Q E s := by
  have laid : ∀ (o : Obj) (tk : Nat), Inv X pins σ H { s with heap := s.heap.push o, toks := tk } := fun o tk => I.kept fun b u e => Heap.get?_push_of_some _ e
  unfold rgV at hv
  split at hv
  · cases hv
    obtain ⟨u, rfl, t, rfl⟩ := vals1 r
    exact call_range_1 (hQ _ _ _ _ _ (IsRange.new ..) (laid _ _))
  · cases hv
    obtain ⟨u1, u2, rfl, ⟨t1, rfl⟩, ⟨t2, rfl⟩⟩ := vals2 r
    exact call_range_2 (hQ _ _ _ _ _ (IsRange.new ..) (laid _ _))
  · cases hv
    obtain ⟨u1, us, rfl, r1, r⟩ := Vals.uncons r
    obtain ⟨u2, us, rfl, r2, r⟩ := Vals.uncons r
    obtain ⟨u3, us, rfl, r3, r⟩ := Vals.uncons r
    obtain rfl := r.zero
    obtain ⟨t1, rfl⟩ := r1
    obtain ⟨t2, rfl⟩ := r2
    obtain ⟨t3, rfl⟩ := r3
    exact call_range_3 ok.c0 (hQ _ _ _ _ _ (IsRange.new ..) (laid _ _)) (.inl (PyProof.noPylong_small ok.cs))
  · cases hv
/-- list(range(..)) -/
theorem pe_lrng {e : Expr} {es : List Expr} {t : TA} {p1 p2 p3 p4 : Pos} (hc : X.calm = true) (h1 : Gl X "list") (h2 : X.mg "list" = none) (h3 : Gl X "range") (h4 : X.mg "range" = none) (ha : PA X (e :: es) t)
    (he : starEach (e :: es) X.env = (false, eval e X.env) :: starEach es X.env) (hpl : ∀ pos, (backTo pos (starEach es X.env)).any (·.1) = false) :
    PE X (.Call (.Name "list" p1) [.Call (.Name "range" p2) (e :: es) [] p3] [] p4) (tCB rLrng t) := by
  refine ⟨fun pins s σ H Q I h => ?_⟩
  refine Call_ (ld_blt I h1 h2 boot_list ?_)
  refine PyProof.Rows.callWith_type1 (args_cons ?_ rfl) rfl
  refine Call_ (ld_blt I h3 h4 boot_range ?_)
  refine PyProof.Rows.callWith_type1 (thn (ha.run p3 pins s σ H _ I h) ?_) he (hpl p3)
  rintro us s1 ⟨vs, H1, I1, r1, a, b, c, n, hv, ok, q⟩
  refine range_call I1 r1 hv ok fun r s2 t1 t2 t3 hr I2 => args_nil ?_
  refine call_list_range (I2.ok.hd hc) hr ok.sm ok.sz ok.le ?_
  intro h' tk acc c' keep new items
  have fresh := I2.hok.fresh (Nat.le_refl s2.heap.objs.size)
  refine ⟨.ref s2.heap.objs.size, _, I2.laid keep (Nat.le_refl _) (show ObjOk X.prog X.w _ _ _ (.lst (rgL a c n)) from ⟨?_, acc.toList, c', rgL_vals items, ?_⟩), rfl, q _ fresh⟩
  · unfold rgL
    rw [List.length_map, List.length_range, sizeLine_eq]
    have := ok.le
    omega
  · rw [Array.toArray_toList]; exact new
end
end KS
set_option linter.all false
set_option autoImplicit false
set_option maxRecDepth 100000
namespace KS
open PySem PySem.Spec PyProof.Rows L2

/-! ### targets -/
def gNs : List Nat → TGs
  | [] => gNil
  | i :: is => gCons (gName i) (gNs is)
def tgR (K : PySem.W.Frag) (ts : List Nat) : TG := match ts with
  | [i] => gName i
  | is => gTup K is.length (gNs is)
section
variable {G : Sg} {K : PySem.W.Frag} {W0 W1 O O1 : Pr} {Os Os1 Os' : Nat → Pr} {H H1 H' : Hp} {σ σ' : L2.St} {env env1 env' : Env} {d : D} {v x : V} {C : Ctx}
theorem setE_ok {i : Nat} (h : setE C env i d = .ok env') : i < env.length ∧ env' = env.set i (some d) ∧ (C.fx = true → i ≠ 0) := by
  unfold setE at h
  split at h
  · rename_i hc
    cases h
    simp only [Bool.and_eq_true, decide_eq_true_eq, Bool.not_eq_true', Bool.and_eq_false_iff] at hc
    refine ⟨hc.1, rfl, fun f => ?_⟩
    rcases hc.2 with z | z
    · rw [f] at z; cases z
    · simpa using z
  · cases h
theorem setE_noexc {i : Nat} {c : Str} {fs : List D} : setE C env i d ≠ .exc c fs := by
  unfold setE; split <;> (intro h; cases h)
theorem setEs_len : ∀ {is : List Nat} {ds : List D} {env env' : Env}, setEs C env is ds = .ok env' → is.length = ds.length
  | [], [], _, _, _ => rfl
  | i :: is, d :: ds, env, env', h => by
    unfold setEs at h
    cases g : setE C env i d with
    | bad => rw [g] at h; cases h
    | exc c fs => exact (setE_noexc g).elim
    | ok env1 =>
      rw [g] at h
      have h : setEs C env1 is ds = .ok env' := h
      simp [setEs_len h]
  | [], _ :: _, _, _, h => by simp [setEs] at h
  | _ :: _, [], _, _, h => by simp [setEs] at h
theorem setEs_noexc : ∀ {is : List Nat} {ds : List D} {env : Env} {c : Str} {fs : List D}, setEs C env is ds ≠ .exc c fs
  | [], [], _, _, _, h => by simp [setEs] at h
  | i :: is, d :: ds, env, c, fs, h => by
    unfold setEs at h
    cases g : setE C env i d with
    | bad => rw [g] at h; cases h
    | exc c fs => exact (setE_noexc g).elim
    | ok env1 =>
      rw [g] at h
      have h : setEs C env1 is ds = .exc c fs := h
      exact setEs_noexc h
  | [], _ :: _, _, _, _, h => by simp [setEs] at h
  | _ :: _, [], _, _, _, h => by simp [setEs] at h
theorem setT_noexc {ts : List Nat} {c : Str} {fs : List D} : setT C env ts d ≠ .exc c fs := by
  unfold setT
  split
  · exact setE_noexc
  · unfold setTup; split
    · exact setEs_noexc
    · intro h; cases h
/-- what a store to names leaves -/
structure Stored (K : PySem.W.Frag) (W0 : Pr) (H : Hp) (σ : L2.St) (Os : Nat → Pr) (ts : List Nat) (Q : Pr) (env' : Env) (σ' : L2.St) : Prop where
  ok : ∃ Os', EnvOk K H W0 σ' env' Os' ∧ ∀ a, EOs Os' a → EOs Os a ∨ Q a
  out : ∀ j, j ∉ ts → σ'[j]? = σ[j]?
  len : σ'.length = σ.length
theorem setEs_ok {C : Ctx} {H : Hp} : ∀ {is : List Nat} {ds : List D} {vs : List V} {env env' : Env} {σ : L2.St} {Os : Nat → Pr} {W0 Qp : Pr} {Ok : Nat → Pr}, setEs C env is ds = .ok env' → vs.length = ds.length →
    EnvOk K H (orP W0 Qp) σ env Os → (∀ a, Qp a → ¬ W0 a) → (∀ (k : Nat) (d : D) (v : V), ds[k]? = some d → vs[k]? = some v → Tr K H (EW (orP W0 Qp) Os) d v (Ok k)) → (∀ (i j : Nat) (a : Addr), i ≠ j → Ok i a → ¬ Ok j a) → (∀ (k : Nat) (a : Addr), Ok k a → Qp a) →
    ∀ {R : L2.St → Hp → Prop}, (∀ σ', Stored K W0 H σ Os is Qp env' σ' → (C.fx = true → 0 ∉ is) → R σ' H) → gNs is vs σ H R
  | [], [], [], env, env', σ, Os, W0, Qp, Ok, h, _, e, _, _, _, _, R, hR => by
    cases h
    exact ⟨rfl, hR σ ⟨⟨Os, e.shrink fun a z => .inl z, fun a z => .inl z⟩, fun _ _ => rfl, rfl⟩ fun _ => by simp⟩
  | i :: is, d :: ds, v :: vs, env, env', σ, Os, W0, Qp, Ok, h, hl, e, dj, ht, hd, hs, R, hR => by
    unfold setEs at h
    cases g : setE C env i d with
    | bad => rw [g] at h; cases h
    | exc c fs => exact (setE_noexc g).elim
    | ok env1 =>
      rw [g] at h
      have h : setEs C env1 is ds = .ok env' := h
      obtain ⟨hi, rfl, hf⟩ := setE_ok g
      have t0 := ht 0 d v rfl rfl
      -- the rest stays reserved
      let Q1 : Pr := fun a => Qp a ∧ ¬ Ok 0 a
      have e1 : EnvOk K H (orP W0 Q1) (σ.set i (some v)) (env.set i (some d)) (setO Os i (Ok 0)) := by
        refine EnvOk.set (O := Ok 0) (e.shrink fun a z => ?_) (t0.shrink fun a z => ?_) fun a z q => ?_
        · exact z.elim (fun z => z.elim .inl fun z => .inr z.1) fun z => .inr (hs 0 a z)
        · rcases z with ((z | z) | z) | z
          · exact .inl (.inl z)
          · exact .inl (.inr z.1)
          · exact .inl (.inr (hs 0 a z))
          · exact .inr z
        · exact q.elim (fun q => dj a (hs 0 a z) q) fun q => q.2 z
      have sw : ∀ a, EW (orP W0 Q1) (setO Os i (Ok 0)) a → EW (orP W0 Qp) Os a := fun a z => by
        rcases z with (z | z) | ⟨j, z⟩
        · exact .inl (.inl z)
        · exact .inl (.inr z.1)
        · by_cases hj : j = i
          · subst hj; rw [setO_same] at z; exact .inl (.inr (hs 0 a z))
          · rw [setO_ne hj] at z; exact .inr ⟨j, z⟩
      refine ⟨v, vs, rfl, ?_⟩
      show gNs is vs (σ.set i (some v)) H R
      refine setEs_ok (Ok := fun k => Ok (k + 1)) h (by simpa using hl) e1 (fun a z => dj a z.1) (fun k d' v' q1 q2 => (ht (k + 1) d' v' (by simpa using q1) (by simpa using q2)).shrink sw) (fun k j a hkj => hd (k + 1) (j + 1) a (by omega)) (fun k a z => ⟨hs (k + 1) a z, fun q => hd (k + 1) 0 a (by omega) z q⟩) fun σ' st hz => ?_
      obtain ⟨Os2, e2, s2⟩ := st.ok
      refine hR σ' ⟨⟨Os2, e2, fun a z => ?_⟩, fun j hj => ?_, by rw [st.len, List.length_set]⟩ fun f q => ?_
      · rcases s2 a z with ⟨j, z⟩ | z
        · by_cases hj : j = i
          · subst hj; rw [setO_same] at z; exact .inr (hs 0 a z)
          · rw [setO_ne hj] at z; exact .inl ⟨j, z⟩
        · exact .inr z.1
      · rw [st.out j fun q => hj (List.mem_cons_of_mem _ q), List.getElem?_set_ne fun q => hj (by rw [q]; exact List.mem_cons_self)]
      · rcases List.mem_cons.mp q with q | q
        · exact hf f q.symm
        · exact hz f q
  | [], _ :: _, _, _, _, _, _, _, _, _, h, _, _, _, _, _, _, _, _ => by simp [setEs] at h
  | _ :: _, [], _, _, _, _, _, _, _, _, h, _, _, _, _, _, _, _, _ => by simp [setEs] at h
  | _, [], _ :: _, _, _, _, _, _, _, _, _, hl, _, _, _, _, _, _, _ => by simp at hl
  | _, _ :: _, [], _, _, _, _, _, _, _, _, hl, _, _, _, _, _, _, _ => by simp at hl
theorem setT_ok {ts : List Nat} {Qp : Pr} (h : setT C env ts d = .ok env') (e : EnvOk K H (orP W0 Qp) σ env Os) (dj : ∀ a, Qp a → ¬ W0 a) (t : Tr K H (EW (orP W0 Qp) Os) d x Qp)
    {R : L2.St → Hp → Prop} (hR : ∀ σ', Stored K W0 H σ Os ts Qp env' σ' → (C.fx = true → 0 ∉ ts) → R σ' H) : tgR K ts x σ H R := by
  have many : ∀ is : List Nat, (∀ i, is ≠ [i]) → setT C env is d = setTup C env is d ∧ tgR K is = gTup K is.length (gNs is) := by
    intro is hn
    match is, hn with
    | [], _ => exact ⟨rfl, rfl⟩
    | [i], hn => exact absurd rfl (hn i)
    | _ :: _ :: _, _ => exact ⟨rfl, rfl⟩
  by_cases hs : ∃ i, ts = [i]
  · obtain ⟨i, rfl⟩ := hs
    have h : setE C env i d = .ok env' := h
    obtain ⟨hi, rfl, hf⟩ := setE_ok h
    show R (σ.set i (some x)) H
    refine hR _ ⟨⟨_, e.set t dj, fun a ⟨j, z⟩ => ?_⟩, fun j hj => List.getElem?_set_ne fun q => hj (by rw [q]; exact List.mem_cons_self), by rw [List.length_set]⟩ fun f q => ?_
    · by_cases hj : j = i
      · subst hj; rw [setO_same] at z; exact .inr z
      · rw [setO_ne hj] at z; exact .inl ⟨j, z⟩
    · exact hf f (by simp at q; exact q.symm)
  · obtain ⟨e1, e2⟩ := many ts fun i q => hs ⟨i, q⟩
    rw [e1] at h
    rw [e2]
    cases t with
    | tup a c f g hq =>
      have h : setEs C env ts _ = .ok env' := h
      exact ⟨_, _, rfl, SqT.of a, by rw [c, setEs_len h], setEs_ok h c e dj (fun k d v q1 q2 => f k v d q2 q1) g hq hR⟩
    | non => cases h
    | bl => cases h
    | int => cases h
    | str => cases h
    | scr => cases h
    | lstS => cases h
    | lstO => cases h
    | dctS => cases h
    | dctO => cases h
    | dcuS => cases h
    | dcuO => cases h
end

/-! ### comprehensions -/
def Sg.nox (G : Sg) : Sg := { G with Ex := fun _ _ _ => False }
section
variable {G : Sg} {K : PySem.W.Frag} {W W0 W1 O O1 : Pr} {Os Os1 Os2 Os' : Nat → Pr} {H H1 H2 H' : Hp} {σ σ' σ1 σ2 : L2.St} {env env1 env2 env' : Env} {d : D} {v x : V}
theorem wipe_get (σ : L2.St) (i : Nat) : ∀ ts : List Nat, (wipe σ ts)[i]? = if i ∈ ts then (σ[i]?).map (fun _ => none) else σ[i]?
  | [] => by simp [wipe]
  | t :: ts => by
    unfold wipe
    rw [List.getElem?_set, wipe_get σ i ts]
    by_cases h : t = i
    · subst h
      simp only [wipe_length, if_true, List.mem_cons, true_or]
      by_cases hl : t < σ.length
      · simp [hl]
      · simp [hl]
    · rw [if_neg h]
      have : i ∈ t :: ts ↔ i ∈ ts := by simp [Ne.symm h]
      simp only [this]
theorem wipeE_get (env : Env) (i : Nat) : ∀ ts : List Nat, (wipeE env ts)[i]? = if i ∈ ts then (env[i]?).map (fun _ => none) else env[i]?
  | [] => by simp [wipeE]
  | t :: ts => by
    unfold wipeE
    have hl : (wipeE env ts).length = env.length := by
      clear t i
      induction ts with
      | nil => rfl
      | cons t ts ih => unfold wipeE; rw [List.length_set, ih]
    rw [List.getElem?_set, wipeE_get env i ts]
    by_cases h : t = i
    · subst h
      simp only [hl, if_true, List.mem_cons, true_or]
      by_cases hl : t < env.length
      · simp [hl]
      · simp [hl]
    · rw [if_neg h]
      have : i ∈ t :: ts ↔ i ∈ ts := by simp [Ne.symm h]
      simp only [this]
theorem wipeE_length (env : Env) : ∀ ts : List Nat, (wipeE env ts).length = env.length
  | [] => rfl
  | t :: ts => by unfold wipeE; rw [List.length_set, wipeE_length env ts]
theorem wipe_same {ts : List Nat} (hl : σ'.length = σ.length) (h : ∀ j, j ∉ ts → σ'[j]? = σ[j]?) : wipe σ' ts = wipe σ ts := by
  refine List.ext_getElem? fun i => ?_
  rw [wipe_get, wipe_get]
  by_cases hi : i ∈ ts
  · rw [if_pos hi, if_pos hi]
    by_cases hl' : i < σ.length
    · rw [List.getElem?_eq_getElem hl', List.getElem?_eq_getElem (by omega)]; rfl
    · rw [List.getElem?_eq_none (show σ'.length ≤ i by omega), List.getElem?_eq_none (show σ.length ≤ i by omega)]
  · rw [if_neg hi, if_neg hi, h i hi]
/-- the target's names are forgotten -/
theorem EnvOk.wipe {ts : List Nat} (e : EnvOk K H W0 σ env Os) (hl : σ'.length = σ.length) (h : ∀ j, j ∉ ts → σ'[j]? = σ[j]?) : EnvOk K H W0 σ' (wipeE env ts) Os := by
  refine e.forget (by rw [wipeE_length, hl, e.len]) fun j d q => ?_
  rw [wipeE_get] at q
  by_cases hj : j ∈ ts
  · rw [if_pos hj] at q
    cases z : env[j]? with
    | none => rw [z] at q; cases q
    | some o => rw [z] at q; cases q
  · rw [if_neg hj] at q
    exact ⟨q, h j hj⟩
/-- a reserved cell is written -/
theorem EnvOk.upd {p : Addr} {o : HO} (e : EnvOk K H W σ env Os) (hp : W p) (ht : ∀ u, H p = some u → ¬ isTF u) : EnvOk K (L2.upd H p o) W σ env Os := by
  have kp : Keep H (L2.upd H p o) (fun a => a = p) := fun a u q m => by
    by_cases ha : a = p
    · subst ha; exact absurd (m rfl) (ht u q)
    · rw [upd_ne ha]; exact q
  have lv : ∀ a, H a ≠ none → L2.upd H p o a ≠ none := fun a z => by
    by_cases ha : a = p
    · subst ha; rw [upd_same]; simp
    · rw [upd_ne ha]; exact z
  refine ⟨e.len, fun i d q => ?_, e.dj, e.out, fun i a q => lv a (e.lv i a q), fun a q => lv a (e.lv0 a q)⟩
  obtain ⟨v, q1, q2⟩ := e.tr i d q
  exact ⟨v, q1, q2.keep kp (fun a z => by subst z; exact .inl hp) (fun a z q => by subst z; exact e.out i a q hp) fun a z => .inl z⟩
/-- one more item in an owned list -/
theorem Tr.snoc {a : Addr} {us : List V} {ds : List D} {u : V} {y : D} {Oy : Pr} (t : Tr K H W (.lst true ds) (.ref a) O) (ha : H a = some (.lst us)) (ty : Tr K H W y u Oy) (hd : ∀ p, O p → ¬ Oy p) (hw : ∀ p, O p → W p) : Tr K (L2.upd H a (.lst (us ++ [u]))) W (.lst true (ds ++ [y])) (.ref a) (orP O Oy) := by
  cases t with
  | lstO h1 h2 h3 h4 h5 h6 =>
    rename_i xs Ok
    rw [ha] at h1; cases h1
    have kp : Keep H (L2.upd H a (.lst (us ++ [u]))) (fun p => p = a) := fun p o q m => by
      by_cases hp : p = a
      · subst hp; rw [ha] at q; cases q; exact (m rfl).elim
      · rw [upd_ne hp]; exact q
    have kM : ∀ p, p = a → W p := fun p z => by subst z; exact hw p h2
    have st : ∀ {d : D} {x : V} {O' : Pr}, Tr K H W d x O' → ¬ O' a → Tr K (L2.upd H a (.lst (us ++ [u]))) W d x O' := fun t n => t.keep kp kM (fun p z q => by subst z; exact n q) fun p z => .inl z
    refine .lstO (Os := fun i => if i < us.length then Ok i else if i = us.length then Oy else fun _ => False) upd_same (.inl h2) (by simp [h3]) (fun i x d q1 q2 => ?_) (fun i j p hij z1 z2 => ?_) fun i p z => ?_
    · by_cases hi : i < us.length
      · rw [if_pos hi]
        rw [List.getElem?_append_left hi] at q1
        rw [List.getElem?_append_left (by omega)] at q2
        exact st (h4 i x d q1 q2) fun z => (h6 i a z).2 rfl
      · rw [if_neg hi]
        rw [List.getElem?_append_right (by omega)] at q1
        rw [List.getElem?_append_right (by omega)] at q2
        have e : i = us.length := by
          have := (List.getElem?_eq_some_iff.mp q1).1
          simp at this
          omega
        rw [if_pos e]
        subst e
        rw [← h3] at q2
        simp at q1 q2
        subst q1; subst q2
        exact st ty fun z => hd a h2 z
    · split at z1
      · split at z2
        · exact h5 i j p hij z1 z2
        · split at z2
          · exact hd p (h6 i p z1).1 z2
          · exact z2
      · split at z1
        · split at z2
          · exact hd p (h6 j p z2).1 z1
          · split at z2
            · omega
            · exact z2
        · exact z1
    · split at z
      · exact ⟨.inl (h6 i p z).1, (h6 i p z).2⟩
      · split at z
        · exact ⟨.inr z, fun q => hd p (by subst q; exact h2) z⟩
        · exact z.elim

theorem ok_of_bind {α β : Type} {r : R α} {f : α → R β} {b : β} (h : (r >>= f) = .ok b) : ∃ a, r = .ok a ∧ f a = .ok b := by
  cases r with
  | ok a => exact ⟨a, rfl, h⟩
  | exc c fs => cases h
  | bad => cases h
theorem Run.of_ok {α : Type} {r : R α} {a : α} {k : α → Prop} (h : r = .ok a) (hk : k a) : Run G W0 Os H r k := by rw [h]; exact hk
/-- a turn of a comprehension -/
def turnC (C : Ctx) (elt : E) (ts : List Nat) (c : E) (x : D) (env : Env) : R (Option D × Env) := do
  let env ← setT C (wipeE env ts) ts x
  let (b, env) ← evE C c env
  if ← truth b then do let (y, env) ← evE C elt env; .ok (some y, env) else .ok (none, env)
/-- what is reserved stands through a step -/
theorem pend_step {J : It} {xs : List D} {P : Pr → Nat → Hp → Pr → Prop} {k : Nat} {Rz Oy : Pr} (w : Wk K J xs P) (e : EnvOk K H W0 σ env Os) (p : Post H Os H1 Os1 Oy) (hP : P (EW W0 Os) k H Rz) (hR : ∀ a, Rz a → W0 a) : P (EW (orP W0 Oy) Os1) k H1 Rz := by
  refine w.keep hP p.keep (fun a z => .inr z) (fun a ⟨j, z⟩ q => e.out j a z (hR a q)) fun a z => ?_
  rcases z with (z | z) | z
  · exact .inl (.inl z)
  · exact (p.sub a (.inr z)).imp .inr id
  · exact (p.sub a (.inl z)).imp .inr id
theorem pend_tree {Oy Ok : Pr} (e : EnvOk K H W0 σ env Os) (p : Post H Os H1 Os1 Oy) (t : Tr K H (EW W0 Os) d v Ok) (hR : ∀ a, Ok a → W0 a) : Tr K H1 (EW (orP W0 Oy) Os1) d v Ok := by
  refine t.keep p.keep (fun a z => .inr z) (fun a ⟨j, z⟩ q => e.out j a z (hR a q)) fun a z => ?_
  rcases z with (z | z) | z
  · exact .inl (.inl z)
  · exact (p.sub a (.inr z)).imp .inr id
  · exact (p.sub a (.inl z)).imp .inr id
theorem pend_cell {Oy : Pr} {a : Addr} {o : HO} (e : EnvOk K H W0 σ env Os) (p : Post H Os H1 Os1 Oy) (h : H a = some o) (hR : W0 a) : H1 a = some o :=
  p.keep a o h fun ⟨j, z⟩ => absurd hR (e.out j a z)
theorem Tr.lstCell {ds : List D} {a : Addr} (t : Tr K H W (.lst true ds) (.ref a) O) : ∃ us, H a = some (.lst us) ∧ us.length = ds.length ∧ O a := by
  cases t with
  | lstO a b c e f g => exact ⟨_, a, c, b⟩
/-- between two turns of a comprehension -/
structure CompI (G : Sg) (W0 : Pr) (Os : Nat → Pr) (H0 : Hp) (σ : L2.St) (ts : List Nat) (elt c : E) (J : It) (xs : List D) (P : Pr → Nat → Hp → Pr → Prop) (Dd : Addr) (Q : VK) (k : Nat) (H : Hp) : Prop where
  hk : k ≤ xs.length
  st : ∃ (Os1 : Nat → Pr) (Rz Od : Pr) (env : Env) (ds : List D), EnvOk G.K H (orP W0 (orP Rz Od)) (L2.wipe σ ts) (wipeE env ts) Os1 ∧ (∀ a, Rz a → ¬ Od a) ∧ (∀ a, Rz a ∨ Od a → ¬ W0 a) ∧
    Tr G.K H (EW (orP W0 (orP Rz Od)) Os1) (.lst true ds) (.ref Dd) Od ∧ P (EW (orP W0 (orP Rz Od)) Os1) k H Rz ∧ Post H0 Os H Os1 (orP Rz Od) ∧ ds.length + (xs.length - k) ≤ line ∧
    ∃ ys envf, compL (turnC G.C elt ts c) (xs.drop k) env ds = .ok (ys, envf) ∧ ∀ v H', Res G W0 Os H0 σ (wipeE envf ts) (.lst true ys) v H' → Q v H'
theorem orP_assoc {A B C : Pr} {a : Addr} : orP (orP A B) C a ↔ orP A (orP B C) a := by unfold orP; exact or_assoc
theorem compI_turn {Q : VK} {H0 : Hp} {ts : List Nat} {elt c : E} {J : It} {xs : List D} {P : Pr → Nat → Hp → Pr → Prop} {Dd : Addr} {k : Nat} (w : Wk G.K J xs P) (I : CompI G W0 Os H0 σ ts elt c J xs P Dd Q k H) (hk : k < xs.length) {x : V} (hy : J.yld k H x H') :
    tgR G.K ts x (L2.wipe σ ts) H' fun σ2 H2 => L2.wipe σ2 ts = L2.wipe σ ts ∧ tT G.nox c σ2 H2 fun b H3 =>
      if b = true then tE G.nox elt σ2 H3 fun y H4 => ∃ acc, H4 Dd = some (.lst acc) ∧ acc.length < sizeLine ∧ CompI G W0 Os H0 σ ts elt c J xs P Dd Q (k + 1) (L2.upd H4 Dd (.lst (acc ++ [y])))
      else CompI G W0 Os H0 σ ts elt c J xs P Dd Q (k + 1) H3 := by
  obtain ⟨_, Os1, Rz, Od, env, ds, e, d1, d2, tacc, hP, po, hlen, ys, envf, hc, hq⟩ := I
  have hd : xs[k]? = some xs[k] := List.getElem?_eq_getElem hk
  obtain ⟨O, R', sm, tx, hP', sO, sR, dO⟩ := w.yld hP hd hy
  rw [List.drop_eq_getElem_cons hk] at hc
  generalize xs[k] = xk at hc hd tx
  unfold compL at hc
  obtain ⟨⟨oy, env4⟩, ht, hc⟩ := ok_of_bind hc
  unfold turnC at ht
  obtain ⟨env2, hset, ht⟩ := ok_of_bind ht
  obtain ⟨⟨b, env3⟩, hcond, ht⟩ := ok_of_bind ht
  obtain ⟨bb, htr, ht⟩ := ok_of_bind ht
  have hb : b = .bl bb := truth_ok htr
  subst hb
  -- the target
  let Wb : Pr := orP W0 (orP R' Od)
  have e1 : EnvOk G.K H' (orP Wb O) (L2.wipe σ ts) (wipeE env ts) Os1 := (e.same sm).shrink fun a z => by
    rcases z with (z | z | z) | z
    · exact .inl z
    · exact .inr (.inl (sR a z))
    · exact .inr (.inr z)
    · exact .inr (.inl (sO a z))
  have dj1 : ∀ a, O a → ¬ Wb a := fun a z q => by
    rcases q with q | q | q
    · exact d2 a (.inl (sO a z)) q
    · exact dO a z q
    · exact d1 a (sO a z) q
  have subW : ∀ a, EW (orP Wb O) Os1 a → EW (orP W0 (orP Rz Od)) Os1 a := fun a z => by
    rcases z with ((z | z | z) | z) | z
    · exact .inl (.inl z)
    · exact .inl (.inr (.inl (sR a z)))
    · exact .inl (.inr (.inr z))
    · exact .inl (.inr (.inl (sO a z)))
    · exact .inr z
  refine setT_ok hset e1 dj1 (tx.shrink subW) fun σ2 sd _ => ?_
  obtain ⟨Os2, e2, s2⟩ := sd.ok
  refine ⟨wipe_same (ts := ts) (sd.len) sd.out |>.trans (wipe_same (by rw [wipe_length]) fun j hj => by rw [wipe_get, if_neg hj]), ?_⟩
  have sub2 : ∀ a, EW Wb Os2 a → EW (orP W0 (orP Rz Od)) Os1 a := fun a z => by
    rcases z with z | z
    · exact subW a (.inl (.inl z))
    · rcases s2 a z with q | q
      · exact .inr q
      · exact .inl (.inr (.inl (sO a q)))
  have tacc2 : Tr G.K H' (EW Wb Os2) (.lst true ds) (.ref Dd) Od := (tacc.same sm).shrink sub2
  have hP2 : P (EW Wb Os2) (k + 1) H' R' := w.keep hP' (Keep.refl _ fun _ => False) (fun _ z => z.elim) (fun _ z => z.elim) fun a z => .inl (sub2 a z)
  -- the test
  refine ⟨Wb, Os2, env2, e2, Run.of_ok hcond fun v H3 res => ⟨bb, res.bl, ?_⟩⟩
  obtain ⟨Os3, O3, e3, dj3, po3, _⟩ := res
  have po03 : Post H0 Os H3 Os3 (orP R' Od) := by
    have pa : Post H0 Os H' Os2 (orP R' Od) := ⟨fun a o q m => sm _ _ (po.keep a o q m), fun a z => by
      rcases z with z | z | z
      · rcases s2 a z with q | q
        · exact po.sub a (.inl q)
        · exact po.sub a (.inr (.inl (sO a q)))
      · exact po.sub a (.inr (.inl (sR a z)))
      · exact po.sub a (.inr (.inr z))⟩
    exact pa.trans po3 (fun a z => .inr (.inl z)) fun a z => pa.sub a z
  have tacc3 := pend_tree e2 po3 tacc2 fun a z => .inr (.inr z)
  have hP3 := pend_step w e2 po3 hP2 fun a z => .inr (.inl z)
  have dR : ∀ a, R' a → ¬ Od a := fun a z => d1 a (sR a z)
  have dW : ∀ a, R' a ∨ Od a → ¬ W0 a := fun a z => d2 a (z.imp (sR a) id)
  have out2 : ∀ j, j ∉ ts → σ2[j]? = (L2.wipe σ ts)[j]? := sd.out
  have e3' : EnvOk G.K H3 Wb σ2 env3 Os3 := e3.shrink fun a z => .inl z
  have shr : ∀ {W : Pr} {a : Addr}, EW Wb Os3 a → EW (orP Wb O3) Os3 a := fun z => z.elim (fun z => .inl (.inl z)) .inr
  cases bb with
  | false =>
    have ht : R.ok (none, env3) = R.ok (oy, env4) := ht
    cases ht
    rw [if_neg Bool.false_ne_true]
    have hc : compL (turnC G.C elt ts c) (List.drop (k + 1) xs) env4 ds = .ok (ys, envf) := hc
    refine ⟨by omega, Os3, R', Od, env4, ds, e3'.wipe (by rw [← sd.len]) fun j hj => (out2 j hj).symm, dR, dW, tacc3.shrink fun a z => shr (W := Wb) z, ?_, po03, by omega, ys, envf, hc, hq⟩
    exact w.keep hP3 (Keep.refl _ fun _ => False) (fun _ z => z.elim) (fun _ z => z.elim) fun a z => .inl (shr (W := Wb) z)
  | true =>
    have ht : (evE G.C elt env3 >>= fun p => R.ok (some p.1, p.2)) = R.ok (oy, env4) := ht
    rw [if_pos rfl]
    obtain ⟨⟨y, env5⟩, helt, ht⟩ := ok_of_bind ht
    cases ht
    have hc : compL (turnC G.C elt ts c) (List.drop (k + 1) xs) env5 (ds ++ [y]) = .ok (ys, envf) := hc
    refine ⟨Wb, Os3, env3, e3', Run.of_ok helt fun u H4 res4 => ?_⟩
    obtain ⟨Os4, Oy, e4, dj4, po4, ty⟩ := res4
    have tacc3' : Tr G.K H3 (EW Wb Os3) (.lst true ds) (.ref Dd) Od := tacc3.shrink fun a z => shr (W := Wb) z
    have hP3' : P (EW Wb Os3) (k + 1) H3 R' := w.keep hP3 (Keep.refl _ fun _ => False) (fun _ z => z.elim) (fun _ z => z.elim) fun a z => .inl (shr (W := Wb) z)
    have tacc4 := pend_tree e3' po4 tacc3' fun a z => .inr (.inr z)
    have hP4 := pend_step w e3' po4 hP3' fun a z => .inr (.inl z)
    obtain ⟨us, hD, hlu, hOD⟩ := tacc4.lstCell
    have po04 : Post H0 Os H4 Os4 (orP R' (orP Od Oy)) := by
      refine po03.trans po4 (fun a z => ?_) fun a z => po03.sub a z
      rcases z with z | z | z
      · exact .inr (.inl (.inl z))
      · exact .inr (.inl (.inr z))
      · exact .inr (.inr z)
    have dOy : ∀ a, Od a → ¬ Oy a := fun a z q => dj4 a q (.inr (.inr z))
    have re : ∀ a, orP W0 (orP R' (orP Od Oy)) a → orP Wb Oy a := fun a z => by
      rcases z with z | z | z | z
      · exact .inl (.inl z)
      · exact .inl (.inr (.inl z))
      · exact .inl (.inr (.inr z))
      · exact .inr z
    have nTF : ∀ o, H4 Dd = some o → ¬ isTF o := fun o q => by rw [hD] at q; cases q; exact id
    have e5 := (e4.shrink re).upd (p := Dd) (o := .lst (us ++ [u])) (.inr (.inr (.inl hOD))) nTF
    have reW : ∀ a, EW (orP W0 (orP R' (orP Od Oy))) Os4 a → EW (orP Wb Oy) Os4 a := fun a z => z.elim (fun z => .inl (re a z)) .inr
    refine ⟨us, hD, by rw [← line_eq]; omega, by omega, Os4, R', orP Od Oy, env5, ds ++ [y], ?_, fun a z q => q.elim (dR a z) fun q => dj4 a q (.inr (.inl z)), fun a z => ?_, ?_, ?_, ?_, by simp; omega, ys, envf, hc, hq⟩
    · exact e5.wipe (by rw [← sd.len]) fun j hj => (out2 j hj).symm
    · rcases z with z | z | z
      · exact dW a (.inl z)
      · exact dW a (.inr z)
      · exact fun q => dj4 a z (.inl q)
    · refine Tr.snoc (tacc4.shrink reW) hD (ty.shrink reW) dOy fun a z => .inl (.inr (.inr (.inl z)))
    · refine w.keep hP4 (M := fun a => a = Dd) (fun a o q m => ?_) (fun a z => ?_) (fun a z q => ?_) fun a z => .inl (reW a z)
      · by_cases ha : a = Dd
        · subst ha; rw [hD] at q; cases q; exact (m rfl).elim
        · rw [upd_ne ha]; exact q
      · subst z; exact .inl (.inl (.inr (.inr hOD)))
      · subst z; exact dR a q hOD
    · refine ⟨fun a o q m => ?_, po04.sub⟩
      have q4 := po04.keep a o q m
      by_cases ha : a = Dd
      · subst ha
        rw [hD] at q4; cases q4
        rcases po.sub a (.inr (.inr hOD)) with z | z
        · exact (m z).elim
        · rw [z] at q; cases q
      · rw [upd_ne ha]; exact q4
theorem compI_end {Q : VK} {H0 : Hp} {ts : List Nat} {elt c : E} {J : It} {xs : List D} {P : Pr → Nat → Hp → Pr → Prop} {Dd : Addr} {k : Nat} (w : Wk G.K J xs P) (I : CompI G W0 Os H0 σ ts elt c J xs P Dd Q k H) (hk : ¬ k < xs.length) : J.stop k H ∧ Q (.ref Dd) H := by
  have he : k = xs.length := by have := I.hk; omega
  subst he
  obtain ⟨_, Os3, Rz, Od, env3, ds, e3, d1, d2, tacc, hP3, po, _, ys, envf, hc, hq⟩ := I
  refine ⟨w.stop hP3 rfl, hq _ _ ?_⟩
  rw [List.drop_length] at hc
  cases hc
  refine ⟨Os3, Od, ?_, fun a z => d2 a (.inr z), ⟨po.keep, fun a z => po.sub a (z.imp id .inr)⟩, tacc.shrink fun a z => ?_⟩
  · refine (e3.shrink fun a z => z.elim .inl fun z => .inr (.inr z)).forget (by have := e3.len; rw [wipe_length] at this; exact this) fun j d q => ⟨q, ?_⟩
    rw [wipe_get]
    rw [wipeE_get] at q
    by_cases hj : j ∈ ts
    · rw [if_pos hj] at q
      cases z : env3[j]? with
      | none => rw [z] at q; cases q
      | some o => rw [z] at q; cases q
    · rw [if_neg hj]
  · rcases z with (z | z) | z
    · exact .inl (.inl z)
    · exact .inl (.inr (.inr z))
    · exact .inr z
theorem comp_core {Q : VK} {elt c : E} {ts : List Nat} {xs : List D} {J : It} (q : Run G W0 Os H (noX (compL (turnC G.C elt ts c) xs env1 []) >>= fun q => if decide (xs.length ≤ line) = true then .ok (D.lst true q.1, wipeE q.2 ts) else .bad) fun p => ∀ v H', Res G W0 Os H σ p.2 p.1 v H' → Q v H') (res : ResI G W0 Os H σ env1 xs J H1) :
    tLc (fun _ _ R => R J H1) (tgR G.K ts) (tT G.nox c) (tE G.nox elt) ts σ H Q := by
  intro Dd hD
  obtain ⟨Os1, O, P, e1, dj1, po1, w, hP⟩ := res
  have q1 := q.bind
  cases g : compL (turnC G.C elt ts c) xs env1 [] with
  | bad => rw [g] at q1; exact q1.elim
  | exc c fs => rw [g] at q1; exact q1.elim
  | ok p2 =>
    rw [g] at q1
    obtain ⟨hz, q2⟩ := Run.guard (G := G) (W0 := W0) (Os := Os) (H := H) q1
    have hz := of_decide_eq_true hz
    have sm : Same H1 (L2.upd H1 Dd (.lst [])) := same_upd hD
    have hO : ∀ a, a = Dd → H1 a = none ∧ L2.upd H1 Dd (.lst []) a ≠ none := fun a z => by subst z; exact ⟨hD, by rw [upd_same]; simp⟩
    have e2 := (e1.alloc (W0 := orP W0 O) (O := fun a => a = Dd) sm (fun _ z => z) hO).reassoc
    have sw : ∀ a, EW (orP W0 (orP O fun a => a = Dd)) Os1 a → EW (orP W0 O) Os1 a ∨ H1 a = none := fun a z => by
      rcases z with (z | z | z) | z
      · exact .inl (.inl (.inl z))
      · exact .inl (.inl (.inr z))
      · exact .inr (by subst z; exact hD)
      · exact .inl (.inr z)
    have I0 : CompI G W0 Os H σ ts elt c J xs P Dd Q 0 (L2.upd H1 Dd (.lst [])) := by
      refine ⟨Nat.zero_le _, Os1, O, fun a => a = Dd, env1, [], e2.wipe (by rw [wipe_length]) fun j hj => by rw [wipe_get, if_neg hj], fun a z q => e1.lv0 a (.inr z) (by subst q; exact hD), fun a z q => ?_, ?_, ?_, ?_, by simpa using hz, p2.1, p2.2, g, fun v H' z => Run.okE (G := G) (W0 := W0) (Os := Os) (H := H) q2 v H' z⟩
      · rcases z with z | z
        · exact dj1 a z q
        · exact e1.lv0 a (.inl q) (by subst z; exact hD)
      · exact .lstO (Os := fun _ _ => False) upd_same rfl rfl (fun i x d h => by simp at h) (fun _ _ _ _ z => z.elim) fun _ _ z => z.elim
      · exact w.keep hP (M := fun _ => False) (Keep.of_same sm) (fun _ z => z.elim) (fun _ z => z.elim) sw
      · refine ⟨fun a o q m => sm _ _ (po1.keep a o q m), fun a z => ?_⟩
        rcases z with z | z | z
        · exact po1.sub a (.inl z)
        · exact po1.sub a (.inr z)
        · subst z
          cases q : H a with
          | none => exact .inr rfl
          | some o =>
            by_cases m : EOs Os a
            · exact .inl m
            · rw [po1.keep a o q fun z => absurd z m] at hD; cases hD
    refine ⟨fun k m Hk => m = xs.length - k ∧ CompI G W0 Os H σ ts elt c J xs P Dd Q k Hk, ⟨_, rfl, I0⟩, fun k m Hk ⟨hm, I⟩ => ?_⟩
    subst hm
    by_cases hk : k < xs.length
    · refine .inr ⟨?_, CompI G W0 Os H σ ts elt c J xs P Dd Q (k + 1), fun H' I' => ⟨xs.length - (k + 1), by omega, rfl, I'⟩, fun x H' hy => compI_turn w I hk hy⟩
      obtain ⟨_, Os3, Rz, Od, env3, ds, _, _, _, _, hP3, _⟩ := I
      exact w.go hP3 hk
    · exact .inl (compI_end w I hk)
theorem tE_comp {Q : VK} {elt c es : E} {ts : List Nat} {k : IK} (h : tE G (.comp elt ts k es c) σ H Q) : tLc (tI G k es) (tgR G.K ts) (tT G.nox c) (tE G.nox elt) ts σ H Q := by
  obtain ⟨W0, Os, env, e, r⟩ := h
  have ev : evE G.C (.comp elt ts k es c) env = (evI G.C k es env >>= fun p => noX (compL (turnC G.C elt ts c) p.1 p.2 []) >>= fun q => if decide (p.1.length ≤ line) = true then .ok (D.lst true q.1, wipeE q.2 ts) else .bad) := by
    unfold evI
    show (evL G.C es env >>= fun p => items k p.1 >>= fun xs => _) = _
    cases evL G.C es env with
    | ok p =>
      show (items k p.1 >>= fun xs => _) = ((items k p.1 >>= fun xs => R.ok (xs, p.2)) >>= _)
      cases items k p.1 <;> rfl
    | exc c fs => rfl
    | bad => rfl
  rw [ev] at r
  exact ⟨W0, Os, env, e, r.bind.mono fun p _ q J H1 res => comp_core q res⟩
end
end KS
set_option linter.all false
set_option autoImplicit false
set_option maxRecDepth 100000
namespace KS
open PySem PySem.Spec PyProof.Rows L2
section
variable {G : Sg} {K : PySem.W.Frag} {W W0 W1 O O1 : Pr} {Os Os1 Os2 Os' : Nat → Pr} {H H1 H2 H' : Hp} {σ σ' σ1 σ2 : L2.St} {env env1 env2 env' : Env} {d : D} {v x : V}
theorem wipeE_app (env : Env) (us : List Nat) : ∀ ts : List Nat, wipeE env (ts ++ us) = wipeE (wipeE env us) ts
  | [] => rfl
  | t :: ts => by
    show (wipeE env (ts ++ us)).set t none = (wipeE (wipeE env us) ts).set t none
    rw [wipeE_app env us ts]
def turnD (C : Ctx) (elt : E) (ts us : List Nat) (l : IK) (fs c : E) (x : D) (env : Env) (acc : List D) : R (List D × Env) := do
  let env ← setT C (wipeE env (ts ++ us)) ts x
  let (ys, env) ← evI C l fs env
  if decide (acc.length + ys.length ≤ line) then compL (turnC C elt us c) ys env acc else .bad
/-- between two turns of the outer loop -/
structure CompJ (G : Sg) (W0 : Pr) (Os : Nat → Pr) (H0 : Hp) (σ : L2.St) (ts us : List Nat) (l : IK) (elt fs c : E) (J : It) (xs : List D) (P : Pr → Nat → Hp → Pr → Prop) (Dd : Addr) (Q : VK) (k : Nat) (H : Hp) : Prop where
  hk : k ≤ xs.length
  st : ∃ (Os1 : Nat → Pr) (Rz Od : Pr) (env : Env) (ds : List D), EnvOk G.K H (orP W0 (orP Rz Od)) (L2.wipe σ (ts ++ us)) (wipeE env (ts ++ us)) Os1 ∧ (∀ a, Rz a → ¬ Od a) ∧ (∀ a, Rz a ∨ Od a → ¬ W0 a) ∧
    Tr G.K H (EW (orP W0 (orP Rz Od)) Os1) (.lst true ds) (.ref Dd) Od ∧ P (EW (orP W0 (orP Rz Od)) Os1) k H Rz ∧ Post H0 Os H Os1 (orP Rz Od) ∧
    ∃ ys envf, compL2 (turnD G.C elt ts us l fs c) (xs.drop k) env ds = .ok (ys, envf) ∧ ∀ v H', Res G W0 Os H0 σ (wipeE envf (ts ++ us)) (.lst true ys) v H' → Q v H'
/-- what the inner loop may change: the list, its own source, the names -/
def hid (A B : Pr) (Os : Nat → Pr) : Nat → Pr
  | 0 => A
  | 1 => B
  | n + 2 => Os n
theorem hid_eos {A B : Pr} {a : Addr} (h : EOs (hid A B Os) a) : A a ∨ B a ∨ EOs Os a := by
  obtain ⟨j, z⟩ := h
  match j, z with
  | 0, z => exact .inl z
  | 1, z => exact .inr (.inl z)
  | n + 2, z => exact .inr (.inr ⟨n, z⟩)
theorem compJ_turn {Q : VK} {H0 : Hp} {ts us : List Nat} {l : IK} {elt fs c : E} {J : It} {xs : List D} {P : Pr → Nat → Hp → Pr → Prop} {Dd : Addr} {k : Nat} (w : Wk G.K J xs P) (I : CompJ G W0 Os H0 σ ts us l elt fs c J xs P Dd Q k H) (hk : k < xs.length) {x : V} (hy : J.yld k H x H') :
    tgR G.K ts x (L2.wipe σ (ts ++ us)) H' fun σ2 H2 => L2.wipe σ2 (ts ++ us) = L2.wipe σ (ts ++ us) ∧ tI G.nox l fs σ2 H2 fun J1 H4 => ∃ W1 : Nat → Nat → Hp → Prop, (∃ m, W1 0 m H4) ∧ ∀ j k' H, W1 j k' H →
      (J1.stop j H ∧ CompJ G W0 Os H0 σ ts us l elt fs c J xs P Dd Q (k + 1) H) ∨ (J1.go j H ∧ ∃ Nx1 : Hp → Prop, (∀ H', Nx1 H' → ∃ k'', k'' < k' ∧ W1 (j + 1) k'' H') ∧ ∀ x H', J1.yld j H x H' → tgR G.K us x (L2.wipe σ2 us) H' fun σ3 H5 => L2.wipe σ3 us = L2.wipe σ2 us ∧ tT G.nox.nox c σ3 H5 fun b H6 =>
        if b = true then tE G.nox.nox elt σ3 H6 fun y H7 => ∃ acc, H7 Dd = some (.lst acc) ∧ acc.length < sizeLine ∧ Nx1 (L2.upd H7 Dd (.lst (acc ++ [y]))) else Nx1 H6) := by
  obtain ⟨_, Os1, Rz, Od, env, ds, e, d1, d2, tacc, hP, po, ys, envf, hc, hq⟩ := I
  have hd : xs[k]? = some xs[k] := List.getElem?_eq_getElem hk
  obtain ⟨O, R', sm, tx, hP', sO, sR, dO⟩ := w.yld hP hd hy
  rw [List.drop_eq_getElem_cons hk] at hc
  generalize xs[k] = xk at hc hd tx
  unfold compL2 at hc
  obtain ⟨⟨acc', env4⟩, ht, hc⟩ := ok_of_bind hc
  unfold turnD at ht
  obtain ⟨env2, hset, ht⟩ := ok_of_bind ht
  obtain ⟨⟨zs, env3⟩, hit, ht⟩ := ok_of_bind ht
  let Wb : Pr := orP W0 (orP R' Od)
  have e1 : EnvOk G.K H' (orP Wb O) (L2.wipe σ (ts ++ us)) (wipeE env (ts ++ us)) Os1 := (e.same sm).shrink fun a z => by
    rcases z with (z | z | z) | z
    · exact .inl z
    · exact .inr (.inl (sR a z))
    · exact .inr (.inr z)
    · exact .inr (.inl (sO a z))
  have dj1 : ∀ a, O a → ¬ Wb a := fun a z q => by
    rcases q with q | q | q
    · exact d2 a (.inl (sO a z)) q
    · exact dO a z q
    · exact d1 a (sO a z) q
  have subW : ∀ a, EW (orP Wb O) Os1 a → EW (orP W0 (orP Rz Od)) Os1 a := fun a z => by
    rcases z with ((z | z | z) | z) | z
    · exact .inl (.inl z)
    · exact .inl (.inr (.inl (sR a z)))
    · exact .inl (.inr (.inr z))
    · exact .inl (.inr (.inl (sO a z)))
    · exact .inr z
  refine setT_ok hset e1 dj1 (tx.shrink subW) fun σ2 sd _ => ?_
  obtain ⟨Os2, e2, s2⟩ := sd.ok
  refine ⟨wipe_same (ts := ts ++ us) (sd.len) (fun j hj => sd.out j fun z => hj (List.mem_append_left _ z)) |>.trans (wipe_same (by rw [wipe_length]) fun j hj => by rw [wipe_get, if_neg hj]), ?_⟩
  have sub2 : ∀ a, EW Wb Os2 a → EW (orP W0 (orP Rz Od)) Os1 a := fun a z => by
    rcases z with z | z
    · exact subW a (.inl (.inl z))
    · rcases s2 a z with q | q
      · exact .inr q
      · exact .inl (.inr (.inl (sO a q)))
  have tacc2 : Tr G.K H' (EW Wb Os2) (.lst true ds) (.ref Dd) Od := (tacc.same sm).shrink sub2
  have hP2 : P (EW Wb Os2) (k + 1) H' R' := w.keep hP' (Keep.refl _ fun _ => False) (fun _ z => z.elim) (fun _ z => z.elim) fun a z => .inl (sub2 a z)
  -- the inner source
  refine ⟨Wb, Os2, env2, e2, Run.of_ok (G := G.nox) hit fun J1 H4 res => ?_⟩
  obtain ⟨Os3, O3, P1, e3, dj3, po3, w1, hP1⟩ := res
  obtain ⟨hz, ht⟩ : decide (ds.length + zs.length ≤ line) = true ∧ compL (turnC G.C elt us c) zs env3 ds = .ok (acc', env4) := by
    by_cases hz : decide (ds.length + zs.length ≤ line) = true
    · exact ⟨hz, by have ht' := ht; simp only [hz, if_true] at ht'; exact ht'⟩
    · have ht' := ht; simp only [hz] at ht'; cases ht'
  have hz := of_decide_eq_true hz
  have po03 : Post H0 Os H4 Os3 (orP R' (orP Od O3)) := by
    have pa : Post H0 Os H' Os2 (orP R' Od) := ⟨fun a o q m => sm _ _ (po.keep a o q m), fun a z => by
      rcases z with z | z | z
      · rcases s2 a z with q | q
        · exact po.sub a (.inl q)
        · exact po.sub a (.inr (.inl (sO a q)))
      · exact po.sub a (.inr (.inl (sR a z)))
      · exact po.sub a (.inr (.inr z))⟩
    refine pa.trans po3 (fun a z => ?_) fun a z => pa.sub a z
    rcases z with z | z | z
    · exact .inr (.inl (.inl z))
    · exact .inr (.inl (.inr z))
    · exact .inr (.inr z)
  have tacc3 := pend_tree e2 po3 tacc2 fun a z => .inr (.inr z)
  have hP3 := pend_step w e2 po3 hP2 fun a z => .inr (.inl z)
  have dR : ∀ a, R' a → ¬ Od a := fun a z => d1 a (sR a z)
  have dW : ∀ a, R' a ∨ Od a → ¬ W0 a := fun a z => d2 a (z.imp (sR a) id)
  have out2 : ∀ j, j ∉ ts ++ us → σ2[j]? = (L2.wipe σ (ts ++ us))[j]? := fun j hj => sd.out j fun z => hj (List.mem_append_left _ z)
  -- the inner loop's invariant
  let Qi : VK := fun v Hn => v = .ref Dd → CompJ G W0 Os H0 σ ts us l elt fs c J xs P Dd Q (k + 1) Hn
  have reO : ∀ a, EW (orP (orP W0 R') (orP O3 Od)) Os3 a → EW (orP Wb O3) Os3 a := fun a z => by
    rcases z with ((z | z) | z | z) | z
    · exact .inl (.inl (.inl z))
    · exact .inl (.inl (.inr (.inl z)))
    · exact .inl (.inr z)
    · exact .inl (.inl (.inr (.inr z)))
    · exact .inr z
  have I0 : CompI G.nox (orP W0 R') (hid Od O3 Os3) H4 σ2 us elt c J1 zs P1 Dd Qi 0 H4 := by
    refine ⟨Nat.zero_le _, Os3, O3, Od, env3, ds, ?_, fun a z q => dj3 a z (.inr (.inr q)), fun a z q => ?_, tacc3.shrink reO, ?_, ⟨Keep.refl _ _, fun a z => ?_⟩, by simpa using hz, acc', env4, ht, fun v Hn res hv => ?_⟩
    · exact (e3.shrink fun a z => by
        rcases z with (z | z) | z | z
        · exact .inl (.inl z)
        · exact .inl (.inr (.inl z))
        · exact .inr z
        · exact .inl (.inr (.inr z))).wipe (by rw [wipe_length]) fun j hj => by rw [wipe_get, if_neg hj]
    · rcases z with z | z
      · rcases q with q | q
        · exact dj3 a z (.inl q)
        · exact dj3 a z (.inr (.inl q))
      · rcases q with q | q
        · exact dW a (.inr z) q
        · exact dR a q z
    · exact w1.keep hP1 (Keep.refl _ fun _ => False) (fun _ z => z.elim) (fun _ z => z.elim) fun a z => .inl (reO a z)
    · rcases z with ⟨j, z⟩ | z | z
      · exact .inl ⟨j + 2, z⟩
      · exact .inl ⟨1, z⟩
      · exact .inl ⟨0, z⟩
    · subst hv
      obtain ⟨Os5, O5, e5, dj5, po5, t5⟩ := res
      have e5 : EnvOk G.K Hn (orP (orP W0 R') O5) σ2 (wipeE env4 us) Os5 := e5
      have t5 : Tr G.K Hn (EW (orP (orP W0 R') O5) Os5) (.lst true acc') (.ref Dd) O5 := t5
      have re5 : ∀ a, EW (orP W0 (orP R' O5)) Os5 a → EW (orP (orP W0 R') O5) Os5 a := fun a z => by
        rcases z with (z | z | z) | z
        · exact .inl (.inl (.inl z))
        · exact .inl (.inl (.inr z))
        · exact .inl (.inr z)
        · exact .inr z
      refine ⟨by omega, Os5, R', O5, env4, acc', ?_, fun a z q => dj5 a q (.inr z), fun a z q => ?_, t5.shrink re5, ?_, ?_, ys, envf, hc, hq⟩
      · rw [wipeE_app]
        refine (e5.shrink fun a z => ?_).forget (by rw [wipeE_length, wipeE_length, wipe_length]; have := e5.len; rw [wipeE_length] at this; have := sd.len; rw [wipe_length] at this; omega) fun j d q => ?_
        · rcases z with z | z | z
          · exact .inl (.inl z)
          · exact .inl (.inr z)
          · exact .inr z
        · rw [wipeE_get] at q
          by_cases hj : j ∈ ts
          · rw [if_pos hj] at q
            cases z : (wipeE env4 us)[j]? with
            | none => rw [z] at q; cases q
            | some o => rw [z] at q; cases q
          · rw [if_neg hj] at q
            refine ⟨q, ?_⟩
            by_cases hu : j ∈ us
            · rw [wipeE_get, if_pos hu] at q
              cases z : env4[j]? with
              | none => rw [z] at q; cases q
              | some o => rw [z] at q; cases q
            · exact (out2 j fun z => (List.mem_append.mp z).elim hj hu).symm
      · rcases z with z | z
        · exact dW a (.inl z) q
        · exact dj5 a z (.inl q)
      · refine w.keep hP3 po5.keep (fun a z => ?_) (fun a z r => ?_) fun a z => ?_
        · rcases hid_eos z with z | z | z
          · exact .inl (.inl (.inr (.inr z)))
          · exact .inl (.inr z)
          · exact .inr z
        · rcases hid_eos z with z | z | ⟨j, z⟩
          · exact dR a r z
          · exact dj3 a z (.inr (.inl r))
          · exact e3.out j a z (.inl (.inr (.inl r)))
        · rcases z with (z | z | z) | z
          · exact .inl (.inl (.inl (.inl z)))
          · exact .inl (.inl (.inl (.inr (.inl z))))
          · rcases po5.sub a (.inr z) with r | r
            · rcases hid_eos r with z | z | z
              · exact .inl (.inl (.inl (.inr (.inr z))))
              · exact .inl (.inl (.inr z))
              · exact .inl (.inr z)
            · exact .inr r
          · rcases po5.sub a (.inl z) with r | r
            · rcases hid_eos r with z | z | z
              · exact .inl (.inl (.inl (.inr (.inr z))))
              · exact .inl (.inl (.inr z))
              · exact .inl (.inr z)
            · exact .inr r
      · have key : ∀ a, EOs (hid Od O3 Os3) a → EOs Os a ∨ H0 a = none := fun a z => by
          rcases hid_eos z with z | z | z
          · exact po03.sub a (.inr (.inr (.inl z)))
          · exact po03.sub a (.inr (.inr (.inr z)))
          · exact po03.sub a (.inl z)
        refine ⟨fun a o q m => po5.keep a o (po03.keep a o q m) fun z => ?_, fun a z => ?_⟩
        · rcases key a z with r | r
          · exact m r
          · rw [q] at r; cases r
        · have back : EOs (hid Od O3 Os3) a ∨ H4 a = none → EOs Os a ∨ H0 a = none := fun z => by
            rcases z with z | z
            · exact key a z
            · by_cases r : EOs Os a
              · exact .inl r
              · right
                cases c' : H0 a with
                | none => rfl
                | some o => have := po03.keep a o c' fun m => absurd m r; rw [z] at this; cases this
          rcases z with z | z | z
          · exact back (po5.sub a (.inl z))
          · exact po.sub a (.inr (.inl (sR a z)))
          · exact back (po5.sub a (.inr z))
  refine ⟨fun j m Hj => m = zs.length - j ∧ CompI G.nox (orP W0 R') (hid Od O3 Os3) H4 σ2 us elt c J1 zs P1 Dd Qi j Hj, ⟨_, rfl, I0⟩, fun j m Hj ⟨hm, Ij⟩ => ?_⟩
  subst hm
  by_cases hj : j < zs.length
  · refine .inr ⟨?_, CompI G.nox (orP W0 R') (hid Od O3 Os3) H4 σ2 us elt c J1 zs P1 Dd Qi (j + 1), fun H' I' => ⟨zs.length - (j + 1), by omega, rfl, I'⟩, fun x H' hy => compI_turn w1 Ij hj hy⟩
    obtain ⟨_, Os3, Rz, Od, env3, ds, _, _, _, _, hP3, _⟩ := Ij
    exact w1.go hP3 hj
  · obtain ⟨h1, h2⟩ := compI_end w1 Ij hj
    exact .inl ⟨h1, h2 rfl⟩
theorem nox_nox (G : Sg) : G.nox.nox = G.nox := rfl
def tYes : TT := fun σ H Q => Q true H
theorem tE_comp2 {Q : VK} {elt c es fs : E} {ts us : List Nat} {k l : IK} (h : tE G (.comp2 elt ts k es us l fs c) σ H Q) :
    tLc2 (tI G k es) (tgR G.K ts) tYes (tI G.nox l fs) (tgR G.K us) (tT G.nox c) (tE G.nox elt) (ts ++ us) us σ H Q := by
  obtain ⟨W0, Os, env, e, r⟩ := h
  have ev : evE G.C (.comp2 elt ts k es us l fs c) env = (evI G.C k es env >>= fun p => noX (compL2 (turnD G.C elt ts us l fs c) p.1 p.2 []) >>= fun q => .ok (D.lst true q.1, wipeE q.2 (ts ++ us))) := by
    have tt : (fun (x : D) (env : Env) (acc : List D) => (setT G.C (wipeE env (ts ++ us)) ts x >>= fun env => evL G.C fs env >>= fun p => items l p.1 >>= fun ys =>
        if decide (acc.length + ys.length ≤ line) = true then compL (turnC G.C elt us c) ys p.2 acc else .bad)) = turnD G.C elt ts us l fs c := by
      funext x env acc
      unfold turnD evI
      cases setT G.C (wipeE env (ts ++ us)) ts x with
      | bad => rfl
      | exc c fs => rfl
      | ok env2 =>
        show (evL G.C fs env2 >>= fun p => items l p.1 >>= fun ys => _) = ((evL G.C fs env2 >>= fun p => items l p.1 >>= fun xs => R.ok (xs, p.2)) >>= _)
        cases evL G.C fs env2 with
        | bad => rfl
        | exc c fs => rfl
        | ok p =>
          show (items l p.1 >>= fun ys => _) = ((items l p.1 >>= fun xs => R.ok (xs, p.2)) >>= _)
          cases items l p.1 <;> rfl
    rw [← tt]
    unfold evI
    show (evL G.C es env >>= fun p => items k p.1 >>= fun xs => _) = _
    cases evL G.C es env with
    | ok p =>
      show (items k p.1 >>= fun xs => _) = ((items k p.1 >>= fun xs => R.ok (xs, p.2)) >>= _)
      cases items k p.1 <;> rfl
    | exc c fs => rfl
    | bad => rfl
  rw [ev] at r
  refine ⟨W0, Os, env, e, r.bind.mono fun p _ q J H1 res Dd hD => ?_⟩
  obtain ⟨xs, env1⟩ := p
  obtain ⟨Os1, O, P, e1, dj1, po1, w, hP⟩ := res
  have q1 := q.bind
  cases g : compL2 (turnD G.C elt ts us l fs c) xs env1 [] with
  | bad => rw [g] at q1; exact q1.elim
  | exc c fs => rw [g] at q1; exact q1.elim
  | ok p2 =>
    rw [g] at q1
    have sm : Same H1 (L2.upd H1 Dd (.lst [])) := same_upd hD
    have hO : ∀ a, a = Dd → H1 a = none ∧ L2.upd H1 Dd (.lst []) a ≠ none := fun a z => by subst z; exact ⟨hD, by rw [upd_same]; simp⟩
    have e2 := (e1.alloc (W0 := orP W0 O) (O := fun a => a = Dd) sm (fun _ z => z) hO).reassoc
    have sw : ∀ a, EW (orP W0 (orP O fun a => a = Dd)) Os1 a → EW (orP W0 O) Os1 a ∨ H1 a = none := fun a z => by
      rcases z with (z | z | z) | z
      · exact .inl (.inl (.inl z))
      · exact .inl (.inl (.inr z))
      · exact .inr (by subst z; exact hD)
      · exact .inl (.inr z)
    have I0 : CompJ G W0 Os H σ ts us l elt fs c J xs P Dd Q 0 (L2.upd H1 Dd (.lst [])) := by
      refine ⟨Nat.zero_le _, Os1, O, fun a => a = Dd, env1, [], e2.wipe (by rw [wipe_length]) fun j hj => by rw [wipe_get, if_neg hj], fun a z q => e1.lv0 a (.inr z) (by subst q; exact hD), fun a z q => ?_, ?_, ?_, ?_, p2.1, p2.2, g, fun v H' z => Run.okE (G := G) (W0 := W0) (Os := Os) (H := H) q1 v H' z⟩
      · rcases z with z | z
        · exact dj1 a z q
        · exact e1.lv0 a (.inl q) (by subst z; exact hD)
      · exact .lstO (Os := fun _ _ => False) upd_same rfl rfl (fun i x d h => by simp at h) (fun _ _ _ _ z => z.elim) fun _ _ z => z.elim
      · exact w.keep hP (M := fun _ => False) (Keep.of_same sm) (fun _ z => z.elim) (fun _ z => z.elim) sw
      · refine ⟨fun a o q m => sm _ _ (po1.keep a o q m), fun a z => ?_⟩
        rcases z with z | z | z
        · exact po1.sub a (.inl z)
        · exact po1.sub a (.inr z)
        · subst z
          cases q : H a with
          | none => exact .inr rfl
          | some o =>
            by_cases m : EOs Os a
            · exact .inl m
            · rw [po1.keep a o q fun z => absurd z m] at hD; cases hD
    refine ⟨fun k m Hk => m = xs.length - k ∧ CompJ G W0 Os H σ ts us l elt fs c J xs P Dd Q k Hk, ⟨_, rfl, I0⟩, fun k m Hk ⟨hm, I⟩ => ?_⟩
    subst hm
    by_cases hk : k < xs.length
    · refine .inr ⟨?_, CompJ G W0 Os H σ ts us l elt fs c J xs P Dd Q (k + 1), fun H' I' => ⟨xs.length - (k + 1), by omega, rfl, I'⟩, fun x H' hy => ?_⟩
      · obtain ⟨_, Os3, Rz, Od, env3, ds, _, _, _, _, hP3, _⟩ := I
        exact w.go hP3 hk
      · have z := compJ_turn w I hk hy
        revert z
        unfold tgR
        exact fun z => z
    · have he : k = xs.length := by have := I.hk; omega
      subst he
      obtain ⟨_, Os3, Rz, Od, env3, ds, e3, d1, d2, tacc, hP3, po, ys, envf, hc, hq⟩ := I
      refine .inl ⟨w.stop hP3 rfl, hq _ _ ?_⟩
      rw [List.drop_length] at hc
      cases hc
      refine ⟨Os3, Od, ?_, fun a z => d2 a (.inr z), ⟨po.keep, fun a z => po.sub a (z.imp id .inr)⟩, tacc.shrink fun a z => ?_⟩
      · refine (e3.shrink fun a z => z.elim .inl fun z => .inr (.inr z)).forget (by have := e3.len; rw [wipe_length] at this; exact this) fun j d q => ⟨q, ?_⟩
        rw [wipe_get]
        rw [wipeE_get] at q
        by_cases hj : j ∈ ts ++ us
        · rw [if_pos hj] at q
          cases z : env3[j]? with
          | none => rw [z] at q; cases q
          | some o => rw [z] at q; cases q
        · rw [if_neg hj]
      · rcases z with (z | z) | z
        · exact .inl (.inl z)
        · exact .inl (.inr (.inr z))
        · exact .inr z
end
end KS
set_option linter.all false
set_option autoImplicit false
set_option maxRecDepth 100000
namespace KS
open PySem PySem.Spec PyProof.Rows L2

/-! ### a def that keeps a promise, where no repr is under way -/
structure FnG (P : Program) (w : World) (K : PySem.W.Frag) (mg : Str → Option Value) (base : Heap) (k : Nat) (f : Addr) (fd : FuncData) (ps : List Str) (sp : Sp) : Prop where
  len : ∀ vs H Q E, sp vs H Q E → vs.length = ps.length
  run : ∀ (A : Around) (outer : List PySem.Env) (s : Shared) (H : Hp) (args : Args) (us : List Value) (vs : List V) (Q : VK) (Ex : XK), A.guards = some [] → Room k A → Env0 P w K mg base A outer s H →
    BindsTo s fd args (ps.zip us) → Vals vs us → sp vs H Q Ex → codeAny (model P w) A (.call (.ref f) args) (CR (L2.CX P w) outer P w H s Q Ex) s
/-- arguments by names alone: which parameter each one fills -/
def KwTo (K : PySem.W.Frag) (fd : FuncData) (ps ks : List Str) (pm : List Nat) : Prop :=
  ∀ (s : Shared) (ws zs : List Value), K.In s.heap → ws.length = ks.length → (pm.mapM fun i => ws[i]?) = some zs → zs.length = ps.length → BindsTo s fd ⟨[], ks.zip ws⟩ (ps.zip zs)
section
variable {X : Cx} {k : Nat} {f : Addr} {fd : FuncData} {ps : List Str} {sp : Sp} {Ex : XK} {x : Str} {p pos : Pos} {e : Expr} {es : List Expr} {t : TA} {pins : List (Addr × Obj)} {σ : L2.St} {H : Hp} {s : Shared} {Q : VK}
theorem after_call {args : Args} {us : List Value} {vs : List V} (F : FnG X.prog X.w X.K X.mg X.base k f fd ps sp) (hg : X.A.guards = some []) (hr : Room k X.A) (hx : Passes (L2.CX X.prog X.w) X Ex) (I : Inv X pins σ H s)
    (hb : BindsTo s fd args (ps.zip us)) (rv : Vals vs us) (h : sp vs H Q Ex) : wpAny (model X.prog X.w) X.A (call (.ref f) args.pos args.kw) (EP X pins σ Q) X.xe s := by
  have c := F.run X.A X.stack s H args us vs Q Ex hg hr I.env0 hb rv h
  refine wpAny_call (codeAny_mono c fun r s' q => ?_)
  match r, q with
  | .error e, q => exact hx pins σ H s e s' I q
  | .ok (.ret u), q => exact I.after q
theorem pe_fn (F : FnG X.prog X.w X.K X.mg X.base k f fd ps sp) (hg : X.A.guards = some []) (hr : Room k X.A) (hgl : Gl X x) (hm : X.mg x = some (.ref f)) (hk : PySem.W.keepIn X.K (.ref f) = true) (hb : Binds X.K fd ps [])
    (hx : Passes (L2.CX X.prog X.w) X Ex) (ha : PA X (e :: es) t) (hdb : (x == ("__debug__" : Str)) = false) (he : starEach (e :: es) X.env = (false, eval e X.env) :: starEach es X.env) (hpl : (backTo pos (starEach es X.env)).any (·.1) = false) :
    PE X (.Call (.Name x p) (e :: es) [] pos) (fun σ H Q => t σ H fun vs H1 => sp vs H1 Q Ex) := by
  constructor
  intro pins s σ H Q I h
  refine wpAny_Call_Name_kw (ld_glob I hgl hm ?_ hdb)
  refine PySem.W.callWith_K (h₀ := X.base) I.ok.mod.kin hk (thn (ha.run pos pins s σ H _ I h) ?_) he hpl
  rintro us s1 ⟨vs, H1, I1, r, q⟩
  refine ⟨I1.kIn, after_call (args := ⟨us, []⟩) F hg hr hx I1 ?_ r q⟩
  have b := hb s1 us I1.kIn (by rw [List.append_nil, ← r.length]; exact F.len _ _ _ _ q)
  rwa [List.append_nil] at b
theorem pe_fn0 (F : FnG X.prog X.w X.K X.mg X.base k f fd ps sp) (hg : X.A.guards = some []) (hr : Room k X.A) (hgl : Gl X x) (hm : X.mg x = some (.ref f)) (hk : PySem.W.keepIn X.K (.ref f) = true) (hb : Binds X.K fd ps [])
    (hx : Passes (L2.CX X.prog X.w) X Ex) (hdb : (x == ("__debug__" : Str)) = false) : PE X (.Call (.Name x p) [] [] pos) (fun σ H Q => sp [] H Q Ex) := by
  constructor
  intro pins s σ H Q I h
  refine wpAny_Call_Name_kw (ld_glob I hgl hm ?_ hdb)
  refine PySem.W.callWith_K0 I.kIn hk (after_call (args := ⟨[], []⟩) (us := []) F hg hr hx I ?_ .nil h)
  have b := hb s [] I.kIn (by rw [List.append_nil]; exact F.len _ _ _ _ h)
  rwa [List.append_nil] at b
end

/-! ### its promise, by the evaluator -/
/-- what stands of the arguments behind a call: the first one where the def changes it -/
def outE (io : Bool) (d1 : D) (n : Nat) : Env := match n with
  | 0 => []
  | n + 1 => (if io then some d1 else none) :: List.replicate n none
/-- the promise of the def number i -/
def spF (G : Sg) (i : Nat) (np : Nat) : Sp := fun vs H Q Ex => ∃ (W0 : Pr) (Os : Nat → Pr) (ds : List D), EnvOk G.K H W0 (vs.map some) (ds.map some) Os ∧ ds.length = np ∧
  Run { G with Ex := Ex } W0 Os H (G.C.run i ds) fun p => ∀ v H', Res G W0 Os H (vs.map some) (outE (G.C.io i) p.2 np) p.1 v H' → Q v H'
section
variable {G : Sg} {K : PySem.W.Frag} {W W0 W1 O O1 : Pr} {Os Os1 Os2 Os' : Nat → Pr} {H H1 H2 H' : Hp} {σ σ' σ1 σ2 : L2.St} {env env1 env2 env' : Env} {d : D} {v x : V} {Q : VK}
theorem spF_len {i np : Nat} {vs : List V} {Ex : XK} (h : spF G i np vs H Q Ex) : vs.length = np := by
  obtain ⟨W0, Os, ds, e, hl, _⟩ := h
  have := e.len
  simpa [hl] using this
theorem permR {pm : List Nat} {ds zs : List D} (h : perm pm ds = .ok zs) : (pm = [] ∧ zs = ds) ∨ (pm ≠ [] ∧ (pm.mapM fun i => ds[i]?) = some zs) := by
  unfold perm at h
  split at h
  · rename_i he
    cases h
    exact .inl ⟨by simpa using he, rfl⟩
  · rename_i he
    refine .inr ⟨fun z => he (by rw [z]; rfl), ?_⟩
    cases q : (pm.mapM fun i => ds[i]?) with
    | none => rw [q] at h; cases h
    | some ys => rw [q] at h; cases h; rfl
theorem perm_noexc {pm : List Nat} {ds : List D} {c : Str} {fs : List D} : perm pm ds ≠ .exc c fs := by
  unfold perm
  split
  · intro h; cases h
  · cases (pm.mapM fun i => ds[i]?) <;> (intro h; cases h)
theorem mapM_get {α β : Type} {g : α → Option β} : ∀ {l : List α} {zs : List β}, l.mapM g = some zs → zs.length = l.length ∧ ∀ (k : Nat) (z : β), zs[k]? = some z → ∃ a, l[k]? = some a ∧ g a = some z
  | [], zs, h => by simp at h; subst h; exact ⟨rfl, fun k z q => by simp at q⟩
  | a :: l, zs, h => by
    rw [List.mapM_cons] at h
    cases e : g a with
    | none => rw [e] at h; cases h
    | some b =>
      rw [e] at h
      cases e2 : l.mapM g with
      | none => rw [e2] at h; cases h
      | some bs =>
        rw [e2] at h
        cases h
        obtain ⟨h1, h2⟩ := mapM_get e2
        refine ⟨by simp [h1], fun k z q => ?_⟩
        cases k with
        | zero => cases q; exact ⟨a, rfl, e⟩
        | succ k => exact h2 k z (by simpa using q)
/-- the frozen arguments, for a callee that changes none: W0c is what the callee must leave out -/
theorem EnvOk.args {ln : List Nat} {ds : List D} {vs : List V} (e : EnvOk K H (orP W0 O) σ env Os) (dj : ∀ a, O a → ¬ W0 a) (hl : vs.length = ds.length)
    (ht : ∀ (k : Nat) (d : D) (v : V), ds[k]? = some d → vs[k]? = some v → ∃ Ok : Pr, Tr K H (EW (orP W0 O) Os) d v Ok ∧ ∀ a, Ok a → O a ∨ ∃ j, j ∈ ln ∧ Os j a) :
    EnvOk K H (fun a => W0 a ∨ ∃ j, j ∉ ln ∧ Os j a) (vs.map some) ((ds.map frz).map some) (fun _ _ => False) := by
  refine ⟨by simp [hl], fun i d q => ?_, fun _ _ _ _ z => z.elim, fun _ _ z => z.elim, fun _ _ z => z.elim, fun a z => ?_⟩
  · rw [List.getElem?_map, List.getElem?_map] at q
    cases z : ds[i]? with
    | none => rw [z] at q; cases q
    | some d0 =>
      rw [z] at q; cases q
      have hi : i < vs.length := by rw [hl]; exact (List.getElem?_eq_some_iff.mp z).1
      refine ⟨vs[i], by rw [List.getElem?_map, List.getElem?_eq_getElem hi]; rfl, ?_⟩
      obtain ⟨Ok, t, ho⟩ := ht i d0 vs[i] z (List.getElem?_eq_getElem hi)
      refine t.frz fun a q => ?_
      rcases q with (q | ⟨j, hj, q⟩) | ⟨_, q⟩
      · refine ⟨.inl (.inl q), fun r => ?_⟩
        rcases ho a r with r | ⟨j, _, r⟩
        · exact dj a r q
        · exact e.out j a r (.inl q)
      · refine ⟨.inr ⟨j, q⟩, fun r => ?_⟩
        rcases ho a r with r | ⟨i, hi, r⟩
        · exact e.out j a q (.inr r)
        · exact e.dj i j a (fun z => hj (by rw [← z]; exact hi)) r q
      · exact q.elim
  · rcases z with z | ⟨j, _, z⟩
    · exact e.lv0 a (.inl z)
    · exact e.lv j a z
theorem Run.wish {Ex : XK} {α : Type} {r : R α} {k : α → Prop} (h : Run G W0 Os H r k) (he : G.Ex = Ex) : Run { G with Ex := Ex } W0 Os H r k := by
  subst he; exact h
/-- behind a call that changed none of its arguments -/
theorem after_plain {ln : List Nat} {env3 : Env} {r : D} {H0 : Hp} {Os0 : Nat → Pr} (e : EnvOk G.K H (orP W0 O) σ env Os) (dj : ∀ a, O a → ¬ W0 a) (po : Post H0 Os0 H Os O)
    {vs : List V} (res : Res G (fun a => W0 a ∨ ∃ j, j ∉ ln ∧ Os j a) (fun _ _ => False) H (vs.map some) env3 r v H1) :
    Res G W0 Os0 H0 σ (if isFresh r = true then env else frzAll env ln) r v H1 := by
  obtain ⟨Os2, O2, e2, dj2, po2, t⟩ := res
  have fr : ∀ a, O2 a → H a = none := fun a z => (po2.sub a (.inr z)).elim (fun ⟨_, q⟩ => q.elim) id
  have sm : Same H H1 := fun a o q => po2.keep a o q fun ⟨_, z⟩ => z.elim
  have al : ∀ a, O2 a → H a = none ∧ H1 a ≠ none := fun a z => ⟨fr a z, e2.lv0 a (.inr z)⟩
  have e3 : EnvOk G.K H1 (orP W0 O2) σ env Os := e.alloc (O := O2) sm (fun _ z => .inl z) al
  have hdj : ∀ a, O2 a → ¬ W0 a := fun a z q => e.lv0 a (.inl q) (fr a z)
  have pp : ∀ {Os' : Nat → Pr}, (∀ a, EOs Os' a → EOs Os a) → Post H0 Os0 H1 Os' O2 := fun {Os'} hs => ⟨fun a o q m => sm _ _ (po.keep a o q m), fun a z => by
    rcases z with z | z
    · exact po.sub a (.inl (hs a z))
    · by_cases q : EOs Os0 a
      · exact .inl q
      · right
        cases c : H0 a with
        | none => rfl
        | some o => have := po.keep a o c fun m => absurd m q; rw [fr a z] at this; cases this⟩
  by_cases hf : isFresh r = true
  · rw [if_pos hf]
    exact ⟨Os, O2, e3, hdj, pp fun _ z => z, t.fresh hf⟩
  · rw [if_neg hf]
    obtain ⟨Os4, e4, h4⟩ := e3.frzAll ln
    refine ⟨Os4, O2, e4, hdj, pp fun a ⟨j, z⟩ => ⟨j, (h4 j a z).1⟩, t.shrink fun a z => ?_⟩
    rcases z with (z | z) | ⟨j, z⟩
    · exact .inl (.inl (.inl z))
    · exact .inl (.inr z)
    · exact .inl (.inl (.inr ⟨j, (h4 j a z).2, (h4 j a z).1⟩))

theorem Run.backN {α : Type} {r : R α} {k k' : α → Prop} (h : Run G W0 Os H r k) (p : Post H Os H1 Os1 O1) (hw : ∀ a, W0 a → W1 a) {Os3 : Nat → Pr} (h3 : ∀ a, EOs Os3 a → EOs Os1 a) (hk : ∀ a, r = .ok a → k a → k' a) : Run G W1 Os3 H1 r k' :=
  h.back (Os1 := Os3) (O1 := O1) ⟨p.keep, fun a z => p.sub a (z.imp (h3 a) id)⟩ hw hk
theorem mapsome_get {α : Type} {l : List α} {i : Nat} {d : α} (h : (l.map some)[i]? = some (some d)) : l[i]? = some d := by
  rw [List.getElem?_map] at h
  cases q : l[i]? with
  | none => rw [q] at h; cases h
  | some a => rw [q] at h; cases h; rfl
/-- the arguments as they are handed on -/
theorem call_core {f np : Nat} {pm : List Nat} {es : E} (hio : G.C.io f = false) (hnp : ∀ ds : List D, ds.length ≠ np → G.C.run f ds = .bad) (h : tE G (.call f pm es) σ H Q) :
    tA G es σ H fun vs H1 => ∃ zs, ((pm = [] ∧ zs = vs) ∨ (pm ≠ [] ∧ (pm.mapM fun i => vs[i]?) = some zs)) ∧ spF G f np zs H1 Q G.Ex := by
  obtain ⟨W0, Os, env, e, r⟩ := h
  have ev : evE G.C (.call f pm es) env = (evA G.C es env >>= fun p => perm pm p.1 >>= fun ds => G.C.run f (ds.map frz) >>= fun q => if isFresh q.1 = true then .ok (q.1, p.2) else .ok (q.1, frzAll p.2 (lent es))) := by
    show (evA G.C es env >>= fun p => perm pm p.1 >>= fun ds => if G.C.io f = true then _ else _) = _
    rw [hio]; rfl
  rw [ev] at r
  refine ⟨W0, Os, env, e, r.bind.mono fun p _ q vs H1 res => ?_⟩
  obtain ⟨ds, env1⟩ := p
  obtain ⟨Os1, O1, e1, dj1, po1, hl, ht⟩ := res
  have q1 := q.bind
  cases g : perm pm ds with
  | exc c fs => exact (perm_noexc g).elim
  | bad => rw [g] at q1; exact q1.elim
  | ok ys =>
    rw [g] at q1
    have q1 : Run G W0 Os H (G.C.run f (ys.map frz) >>= fun q => if isFresh q.1 = true then R.ok (q.1, env1) else R.ok (q.1, frzAll env1 (lent es))) _ := q1
    -- the values in the parameters' order
    have hl : vs.length = ds.length := hl
    obtain ⟨zs, hz, hlz, htz⟩ : ∃ zs, ((pm = [] ∧ zs = vs) ∨ (pm ≠ [] ∧ (pm.mapM fun i => vs[i]?) = some zs)) ∧ zs.length = ys.length ∧
        ∀ (k : Nat) (d : D) (v : V), ys[k]? = some d → zs[k]? = some v → ∃ Ok : Pr, Tr G.K H1 (EW (orP W0 O1) Os1) d v Ok ∧ ∀ a, Ok a → O1 a ∨ ∃ j, j ∈ lent es ∧ Os1 j a := by
      rcases permR g with ⟨h1, h2⟩ | ⟨h1, h2⟩
      · subst h2
        exact ⟨vs, .inl ⟨h1, rfl⟩, hl, ht⟩
      · obtain ⟨hly, hgy⟩ := mapM_get h2
        have all : ∀ l : List Nat, (∀ i, i ∈ l → i < ds.length) → ∃ zs, (l.mapM fun i => vs[i]?) = some zs := by
          intro l
          induction l with
          | nil => intro _; exact ⟨[], by simp⟩
          | cons i l ih =>
            intro hi
            obtain ⟨zs, hz⟩ := ih fun j hj => hi j (List.mem_cons_of_mem _ hj)
            have h0 := hi i List.mem_cons_self
            exact ⟨vs[i]'(by omega) :: zs, by rw [List.mapM_cons, List.getElem?_eq_getElem (by omega), hz]; rfl⟩
        obtain ⟨zs, hz⟩ := all pm fun i hi => by
          obtain ⟨k, hk, e⟩ := List.getElem_of_mem hi
          have hk2 : k < ys.length := by rw [hly]; exact hk
          obtain ⟨a, q1, q2⟩ := hgy k ys[k] (List.getElem?_eq_getElem hk2)
          rw [List.getElem?_eq_getElem hk, e] at q1
          cases q1
          exact (List.getElem?_eq_some_iff.mp q2).1
        obtain ⟨hlz, hgz⟩ := mapM_get hz
        refine ⟨zs, .inr ⟨h1, hz⟩, by rw [hlz, hly], fun k d v q1 q2 => ?_⟩
        obtain ⟨a, r1, r2⟩ := hgy k d q1
        obtain ⟨b, r3, r4⟩ := hgz k v q2
        rw [r1] at r3; cases r3
        exact ht a d v r2 r4
    refine ⟨zs, hz, ?_⟩
    have eA := e1.args (ln := lent es) dj1 hlz htz
    by_cases hn : (ys.map frz).length = np
    · refine ⟨_, _, ys.map frz, eA, hn, ?_⟩
      refine Run.wish (G := G) ?_ rfl
      refine (q1.bind).backN (Os1 := Os1) (O1 := O1) po1 (fun a z => .inl z) (fun a ⟨_, z⟩ => z.elim) fun p _ qq v H2 res2 => ?_
      have res3 := after_plain e1 dj1 po1 (vs := zs) res2
      by_cases hf : isFresh p.1 = true
      · rw [if_pos hf] at qq res3
        exact Run.okE (G := G) (W0 := W0) (Os := Os) (H := H) qq v H2 res3
      · rw [if_neg hf] at qq res3
        exact Run.okE (G := G) (W0 := W0) (Os := Os) (H := H) qq v H2 res3
    · rw [hnp _ hn] at q1
      exact q1.elim
theorem tE_call {f np : Nat} {es : E} (hio : G.C.io f = false) (hnp : ∀ ds : List D, ds.length ≠ np → G.C.run f ds = .bad) (h : tE G (.call f [] es) σ H Q) : tA G es σ H fun vs H1 => spF G f np vs H1 Q G.Ex :=
  tA_mono (call_core hio hnp h) fun vs H1 ⟨zs, hz, q⟩ => by
    rcases hz with ⟨_, rfl⟩ | ⟨h, _⟩
    · exact q
    · exact absurd rfl h
theorem allFlat_tr {d1 : D} (h : allFlat d1 = true) (t : Tr K H W d1 v O) : ∃ a, v = .ref a ∧ (∃ us, H a = some (.lst us)) ∧ O a ∧ Tr K H W d1 v (fun p => p = a) := by
  cases t with
  | lstO a b c e f g =>
    rename_i p us ds Os
    simp only [allFlat] at h
    refine ⟨p, rfl, ⟨us, a⟩, b, .lstO (Os := fun _ _ => False) a rfl c (fun i x d q1 q2 => ?_) (fun _ _ _ _ z => z.elim) fun _ _ z => z.elim⟩
    have fl := List.all_eq_true.mp h d (List.mem_of_getElem? q2)
    refine (e i x d q1 q2).noOwn ?_
    cases d <;> first | rfl | (simp [flat] at fl)
  | lstS => simp [allFlat] at h
  | _ => simp [allFlat] at h
theorem allFlat_fresh {d1 : D} (hfl : allFlat d1 = true) : isFresh d1 = true := by
  have all : ∀ l : List D, l.all flat = true → isFreshL l = true := by
    intro l
    induction l with
    | nil => intro _; rfl
    | cons d l ih =>
      intro h
      simp only [List.all_cons, Bool.and_eq_true] at h
      simp only [isFreshL, ih h.2, Bool.and_true]
      cases d <;> first | rfl | (simp [flat] at h)
  cases d1 <;> first | (simp [allFlat] at hfl; done) | skip
  rename_i o xs
  cases o with
  | false => simp [allFlat] at hfl
  | true =>
    simp only [allFlat] at hfl
    simp only [isFresh, Bool.true_and]
    exact all xs hfl
theorem tE_callio {f np i : Nat} {rest : E} (hio : G.C.io f = true) (hnp : ∀ ds : List D, ds.length ≠ np → G.C.run f ds = .bad) (h : tE G (.call f [] (.cons (.bor i) rest)) σ H Q) :
    tVar i σ H fun x H0 => tA G rest σ H0 fun vs H1 => spF G f np (x :: vs) H1 Q G.Ex := by
  obtain ⟨W0, Os, env, e, r⟩ := h
  have ev : evE G.C (.call f [] (.cons (.bor i) rest)) env = (getE env i >>= fun _ => evA G.C rest env >>= fun p => getE p.2 i >>= fun d0 => if (lent rest).contains i = true then .bad else G.C.run f (d0 :: p.1.map frz) >>= fun q =>
      if allFlat q.2 = true then .ok (q.1, if isFresh q.1 = true then p.2.set i (some q.2) else frzAll (p.2.set i (some q.2)) (lent rest)) else .bad) := by
    show ((getE env i >>= fun _ => evA G.C rest env >>= fun q => getE q.2 i >>= fun d => R.ok (d :: q.1, q.2)) >>= fun p => perm [] p.1 >>= fun ds => if G.C.io f = true then _ else _) = _
    rw [hio]
    cases getE env i with
    | bad => rfl
    | exc c fs => rfl
    | ok d =>
      show ((evA G.C rest env >>= fun q => getE q.2 i >>= fun d => R.ok (d :: q.1, q.2)) >>= _) = (evA G.C rest env >>= _)
      cases evA G.C rest env with
      | bad => rfl
      | exc c fs => rfl
      | ok p =>
        show ((getE p.2 i >>= fun d => R.ok (d :: p.1, p.2)) >>= _) = (getE p.2 i >>= _)
        cases getE p.2 i <;> rfl
  rw [ev] at r
  have r1 := r.bind
  cases g : getE env i with
  | exc c fs => unfold getE at g; split at g <;> cases g
  | bad => rw [g] at r1; exact r1.elim
  | ok d00 =>
    rw [g] at r1
    obtain ⟨x, hx, _⟩ := e.tr i d00 (getE_ok g)
    have r1 : Run G W0 Os H (evA G.C rest env >>= _) _ := r1
    refine ⟨x, hx, W0, Os, env, e, r1.bind.mono fun p _ q vs H1 res => ?_⟩
    obtain ⟨ds, env1⟩ := p
    obtain ⟨Os1, O1, e1, dj1, po1, hl, ht⟩ := res
    have q1 := q.bind
    cases g2 : getE env1 i with
    | exc c fs => unfold getE at g2; split at g2 <;> cases g2
    | bad => rw [g2] at q1; exact q1.elim
    | ok d0 =>
      rw [g2] at q1
      have gi := getE_ok g2
      obtain ⟨x', hx', t0⟩ := e1.tr i d0 gi
      rw [hx] at hx'; cases hx'
      by_cases hin : (lent rest).contains i = true
      · have q1 : Run G W0 Os H (if (lent rest).contains i = true then .bad else _) _ := q1
        rw [if_pos hin] at q1
        exact q1.elim
      · have q1 : Run G W0 Os H (if (lent rest).contains i = true then .bad else G.C.run f (d0 :: ds.map frz) >>= _) _ := q1
        rw [if_neg hin] at q1
        have hin : i ∉ lent rest := fun z => hin (by simpa using z)
        let W0c : Pr := fun a => W0 a ∨ ∃ j, j ∉ lent rest ∧ j ≠ i ∧ Os1 j a
        let Osc : Nat → Pr := fun k => match k with | 0 => Os1 i | _ => fun _ => False
        have eoc : ∀ a, EOs Osc a → Os1 i a := fun a ⟨j, z⟩ => by cases j with | zero => exact z | succ j => exact z.elim
        have eA : EnvOk G.K H1 W0c ((x :: vs).map some) ((d0 :: ds.map frz).map some) Osc := by
          have hl : vs.length = ds.length := hl
          refine ⟨by simp [hl], fun k d q => ?_, fun j k a hjk z1 z2 => ?_, fun k a z q => ?_, fun k a z => ?_, fun a z => ?_⟩
          · have q := mapsome_get q
            cases k with
            | zero =>
              cases q
              refine ⟨x, rfl, t0.shrink fun a z => ?_⟩
              rcases z with (z | ⟨j, _, _, z⟩) | z
              · exact .inl (.inl z)
              · exact .inr ⟨j, z⟩
              · exact .inr ⟨i, eoc a z⟩
            | succ k =>
              obtain ⟨d1, q1, rfl⟩ := getF (show (ds.map frz)[k]? = some d from by simpa using q)
              have hk : k < vs.length := by rw [hl]; exact (List.getElem?_eq_some_iff.mp q1).1
              refine ⟨vs[k], by simp [hk], ?_⟩
              obtain ⟨Ok, t, ho⟩ := ht k d1 vs[k] q1 (List.getElem?_eq_getElem hk)
              refine t.frz fun a z => ?_
              rcases z with (z | ⟨j, hj, hji, z⟩) | z
              · refine ⟨.inl (.inl z), fun r => ?_⟩
                rcases ho a r with r | ⟨j, _, r⟩
                · exact dj1 a r z
                · exact e1.out j a r (.inl z)
              · refine ⟨.inr ⟨j, z⟩, fun r => ?_⟩
                rcases ho a r with r | ⟨m, hm, r⟩
                · exact e1.out j a z (.inr r)
                · exact e1.dj m j a (fun q => hj (by rw [← q]; exact hm)) r z
              · have z := eoc a z
                refine ⟨.inr ⟨i, z⟩, fun r => ?_⟩
                rcases ho a r with r | ⟨m, hm, r⟩
                · exact e1.out i a z (.inr r)
                · exact e1.dj m i a (fun q => hin (by rw [← q]; exact hm)) r z
          · cases j with
            | zero => cases k with
              | zero => exact hjk rfl
              | succ k => exact z2
            | succ j => exact z1
          · have z := eoc a ⟨k, z⟩
            rcases q with q | ⟨j, _, hji, q⟩
            · exact e1.out i a z (.inl q)
            · exact e1.dj j i a hji q z
          · exact e1.lv i a (eoc a ⟨k, z⟩)
          · rcases z with z | ⟨j, _, _, z⟩
            · exact e1.lv0 a (.inl z)
            · exact e1.lv j a z
        by_cases hn : (d0 :: ds.map frz).length = np
        · refine ⟨W0c, Osc, d0 :: ds.map frz, eA, hn, ?_⟩
          refine Run.wish (G := G) ?_ rfl
          refine (q1.bind).backN (Os1 := Os1) (O1 := O1) po1 (fun a z => .inl z) (fun a z => ⟨i, eoc a z⟩) fun p _ qq v H2 res2 => ?_
          obtain ⟨r, d1⟩ := p
          obtain ⟨hfl, qq⟩ := Run.guard (G := G) (W0 := W0) (Os := Os) (H := H) qq
          refine Run.okE (G := G) (W0 := W0) (Os := Os) (H := H) qq v H2 ?_
          rw [hio] at res2
          obtain ⟨Os2, O2, e2, dj2, po2, t⟩ := res2
          have hnp0 : ∃ m, np = m + 1 := ⟨ds.length, by rw [← hn]; simp⟩
          obtain ⟨m, hm⟩ := hnp0
          obtain ⟨x2, hx2, t1⟩ := e2.tr 0 d1 (by rw [hm]; rfl)
          have hx2 : x = x2 := by simpa using hx2
          subst hx2
          obtain ⟨c, hxc, _, hc0, t2⟩ := allFlat_tr hfl t1
          have hfd : isFresh d1 = true := allFlat_fresh hfl
          have sO : ∀ a, Os2 0 a ∨ O2 a → Os1 i a ∨ H1 a = none := fun a z => (po2.sub a (z.imp (fun z => ⟨0, z⟩) id)).imp (eoc a) id
          have k2 : Keep H1 H2 (Os1 i) := fun a o q m => po2.keep a o q fun z => m (eoc a z)
          have eC : EnvOk G.K H2 (orP W0 O2) σ (env1.set i (some d1)) (setO Os1 i fun a => a = c) :=
            e1.change2 (fun a z => .inl z) hx k2 (fun a z => sO a (.inl (by rw [z]; exact hc0))) (fun a z => sO a (.inr z)) (fun a z q => e2.out 0 a (by rw [z]; exact hc0) (.inr q)) (fun a z => e2.lv 0 a (by rw [z]; exact hc0)) (fun a z => e2.lv0 a (.inr z)) (fun _ _ => .inr trivial) (t2.fresh hfd)
          have djC : ∀ a, O2 a → ¬ W0 a := fun a z q => by
            rcases sO a (.inr z) with r | r
            · exact e1.out i a r (.inl q)
            · exact e1.lv0 a (.inl q) r
          have pC : ∀ {Os' : Nat → Pr}, (∀ j a, Os' j a → setO Os1 i (fun a => a = c) j a) → Post H Os H2 Os' O2 := fun {Os'} hs => by
            refine ⟨fun a o q mm => ?_, fun a z => ?_⟩
            · refine k2 a o (po1.keep a o q mm) fun z => ?_
              rcases po1.sub a (.inl ⟨i, z⟩) with r | r
              · exact mm r
              · rw [q] at r; cases r
            · have key : ∀ a, Os1 i a ∨ H1 a = none → EOs Os a ∨ H a = none := fun a z => by
                rcases z with z | z
                · exact po1.sub a (.inl ⟨i, z⟩)
                · by_cases r : EOs Os a
                  · exact .inl r
                  · right
                    cases c' : H a with
                    | none => rfl
                    | some o => have := po1.keep a o c' fun m => absurd m r; rw [z] at this; cases this
              rcases z with ⟨j, z⟩ | z
              · have z := hs j a z
                by_cases hj : j = i
                · subst hj; rw [setO_same] at z
                  exact key a (sO a (.inl (by rw [z]; exact hc0)))
                · rw [setO_ne hj] at z; exact po1.sub a (.inl ⟨j, z⟩)
              · exact key a (sO a (.inr z))
          by_cases hfr : isFresh r = true
          · rw [if_pos hfr]
            exact ⟨setO Os1 i fun a => a = c, O2, eC, djC, pC fun _ _ z => z, t.fresh hfr⟩
          · rw [if_neg hfr]
            obtain ⟨Os4, e4, h4⟩ := eC.frzAll (lent rest)
            refine ⟨Os4, O2, e4, djC, pC fun j a z => (h4 j a z).1, t.shrink fun a z => ?_⟩
            rcases z with (z | z) | ⟨j, z⟩
            · exact .inl (.inl (.inl z))
            · exact .inl (.inr z)
            · obtain ⟨z, hj⟩ := h4 j a z
              by_cases hji : j = i
              · subst hji; rw [setO_same] at z
                exact .inr ⟨0, by rw [z]; exact hc0⟩
              · rw [setO_ne hji] at z
                exact .inl (.inl (.inr ⟨j, hj, hji, z⟩))
        · rw [hnp _ hn] at q1
          exact q1.elim
theorem EnvOk.pass {M O2 : Pr} (e : EnvOk K H (orP W0 O) σ env Os) (dj : ∀ a, O a → ¬ W0 a) (k : Keep H H' M) (hM : ∀ a, M a → O a) (hO : ∀ a, O2 a → O a ∨ H a = none) (h2 : ∀ a, O2 a → H' a ≠ none) : EnvOk K H' (orP W0 O2) σ env Os := by
  have live : ∀ a, ¬ M a → H a ≠ none → H' a ≠ none := fun a hm h q => by
    cases z : H a with
    | none => exact h z
    | some o => have := k a o z fun m => absurd m hm; rw [q] at this; cases this
  refine ⟨e.len, fun i d q => ?_, e.dj, fun i a q z => ?_, fun i a q => live a (fun m => e.out i a q (.inr (hM a m))) (e.lv i a q), fun a z => ?_⟩
  · obtain ⟨v, q1, q2⟩ := e.tr i d q
    refine ⟨v, q1, q2.keep (M := M) k (fun a m => .inl (.inr (hM a m))) (fun a m z => e.out i a z (.inr (hM a m))) fun a z => ?_⟩
    rcases z with (z | z) | z
    · exact .inl (.inl (.inl z))
    · exact (hO a z).imp (fun q => .inl (.inr q)) id
    · exact .inl (.inr z)
  · rcases z with z | z
    · exact e.out i a q (.inl z)
    · rcases hO a z with r | r
      · exact e.out i a q (.inr r)
      · exact e.lv i a q r
  · rcases z with z | z
    · exact live a (fun m => dj a (hM a m) z) (e.lv0 a (.inl z))
    · exact h2 a z
/-- a def that changes its first argument, called with a thing of its own -/
theorem tE_callT {f np : Nat} {es : E} (hio : G.C.io f = true) (hnp : ∀ ds : List D, ds.length ≠ np → G.C.run f ds = .bad) (h : tE G (.callT f es) σ H Q) : tL G es σ H fun vs H1 => spF G f np vs H1 Q G.Ex := by
  obtain ⟨W0, Os, env, e, r⟩ := h
  have r' : Run G W0 Os H (evL G.C es env >>= fun p => match p.1 with
    | d0 :: ds => if G.C.io f = true then (G.C.run f (d0 :: ds.map frz) >>= fun q => R.ok (q.1, p.2)) else R.bad
    | [] => R.bad) _ := r
  refine ⟨W0, Os, env, e, r'.bind.mono fun p _ q vs H1 res => ?_⟩
  obtain ⟨ds, env1⟩ := p
  obtain ⟨Os1, O1, Ow, e1, dj1, po1, hl, ht, hdj, hsub⟩ := res
  cases ds with
  | nil => exact q.elim
  | cons d0 ds =>
    have q1 : Run G W0 Os H (if G.C.io f = true then (G.C.run f (d0 :: ds.map frz) >>= fun q => R.ok (q.1, env1)) else R.bad) _ := q
    rw [if_pos hio] at q1
    have hl : vs.length = ds.length + 1 := hl
    let W0c : Pr := fun a => W0 a ∨ EOs Os1 a
    let Osc : Nat → Pr := fun k => match k with | 0 => Ow 0 | _ => fun _ => False
    have eoc : ∀ a, EOs Osc a → Ow 0 a := fun a ⟨j, z⟩ => by cases j with | zero => exact z | succ j => exact z.elim
    have eo1 : ∀ a, Ow 0 a → O1 a := fun a z => hsub 0 a z
    have eA : EnvOk G.K H1 W0c (vs.map some) ((d0 :: ds.map frz).map some) Osc := by
      refine ⟨by simp [hl], fun k d q => ?_, fun j k a hjk z1 z2 => ?_, fun k a z q => ?_, fun k a z => ?_, fun a z => ?_⟩
      · have q := mapsome_get q
        cases k with
        | zero =>
          cases q
          have h0 : 0 < vs.length := by omega
          refine ⟨vs[0], by simp [h0], (ht 0 d0 vs[0] rfl (List.getElem?_eq_getElem h0)).shrink fun a z => ?_⟩
          rcases z with (z | z) | z
          · exact .inl (.inl z)
          · exact .inr z
          · exact .inl (.inr (eo1 a (eoc a z)))
        | succ k =>
          obtain ⟨d1, q1, rfl⟩ := getF (show (ds.map frz)[k]? = some d from by simpa using q)
          have hk : k + 1 < vs.length := by have := (List.getElem?_eq_some_iff.mp q1).1; omega
          refine ⟨vs[k + 1], by simp [hk], ?_⟩
          refine (ht (k + 1) d1 vs[k + 1] (by simpa using q1) (List.getElem?_eq_getElem hk)).frz fun a z => ?_
          rcases z with (z | z) | z
          · exact ⟨.inl (.inl z), fun r => dj1 a (hsub _ a r) z⟩
          · obtain ⟨j, z⟩ := z
            exact ⟨.inr ⟨j, z⟩, fun r => e1.out j a z (.inr (hsub _ a r))⟩
          · have z := eoc a z
            exact ⟨.inl (.inr (eo1 a z)), fun r => hdj 0 (k + 1) a (by omega) z r⟩
      · cases j with
        | zero => cases k with
          | zero => exact hjk rfl
          | succ k => exact z2
        | succ j => exact z1
      · have z := eo1 a (eoc a ⟨k, z⟩)
        rcases q with q | ⟨j, q⟩
        · exact dj1 a z q
        · exact e1.out j a q (.inr z)
      · exact e1.lv0 a (.inr (eo1 a (eoc a ⟨k, z⟩)))
      · rcases z with z | ⟨j, z⟩
        · exact e1.lv0 a (.inl z)
        · exact e1.lv j a z
    by_cases hn : (d0 :: ds.map frz).length = np
    · refine ⟨W0c, Osc, d0 :: ds.map frz, eA, hn, ?_⟩
      refine Run.wish (G := G) ?_ rfl
      refine (q1.bind).back (Os1 := Osc) (O1 := O1) ⟨po1.keep, fun a z => po1.sub a (.inr (z.elim (fun z => eo1 a (eoc a z)) id))⟩ (fun a z => .inl z) fun p _ qq v H2 res2 => ?_
      obtain ⟨r, d1⟩ := p
      refine Run.okE (G := G) (W0 := W0) (Os := Os) (H := H) qq v H2 ?_
      obtain ⟨Os2, O2, e2, dj2, po2, t⟩ := res2
      have sO : ∀ a, O2 a → O1 a ∨ H1 a = none := fun a z => (po2.sub a (.inr z)).imp (fun z => eo1 a (eoc a z)) id
      have key : ∀ a, O1 a ∨ H1 a = none → EOs Os a ∨ H a = none := fun a z => by
        rcases z with z | z
        · exact po1.sub a (.inr z)
        · by_cases r : EOs Os a
          · exact .inl r
          · right
            cases c' : H a with
            | none => rfl
            | some o => have := po1.keep a o c' fun m => absurd m r; rw [z] at this; cases this
      refine ⟨Os1, O2, e1.pass (M := fun a => EOs Osc a) dj1 (fun a o q m => po2.keep a o q m) (fun a z => eo1 a (eoc a z)) sO (fun a z => e2.lv0 a (.inr z)), fun a z q => dj2 a z (.inl q), ⟨fun a o q mm => po2.keep a o (po1.keep a o q mm) fun z => ?_, fun a z => ?_⟩, t.shrink fun a z => ?_⟩
      · rcases po1.sub a (.inr (eo1 a (eoc a z))) with r | r
        · exact mm r
        · rw [q] at r; cases r
      · rcases z with z | z
        · exact po1.sub a (.inl z)
        · exact key a (sO a z)
      · rcases z with (z | z) | z
        · exact .inl (.inl (.inl z))
        · exact .inl (.inr z)
        · exact .inl (.inl (.inr z))
    · rw [hnp _ hn] at q1
      exact q1.elim
end
end KS
set_option linter.all false
set_option autoImplicit false
set_option maxRecDepth 100000
namespace KS
open PySem PySem.Spec PyProof.Rows L2

/-- slot 0 stays where the first argument is the caller's -/
def Fix (C : Ctx) (σ σ' : L2.St) : Prop := C.fx = true → σ'[0]? = σ[0]?
theorem Fix.refl (C : Ctx) (σ : L2.St) : Fix C σ σ := fun _ => rfl
theorem Fix.trans {C : Ctx} {σ σ1 σ2 : L2.St} (a : Fix C σ σ1) (b : Fix C σ1 σ2) : Fix C σ σ2 := fun h => (b h).trans (a h)
/-- a statement's end that goes on -/
def ResS (G : Sg) (W0 : Pr) (Os : Nat → Pr) (H : Hp) (σ σ' : L2.St) (env' : Env) (H' : Hp) : Prop :=
  Fix G.C σ σ' ∧ ∃ Os', EnvOk G.K H' W0 σ' env' Os' ∧ Post H Os H' Os' (fun _ => False)
def OutP (G : Sg) (W0 : Pr) (Os : Nat → Pr) (H : Hp) (σ : L2.St) (Dn : Ends) : Out → Prop
  | .nx env' => ∀ σ' H', ResS G W0 Os H σ σ' env' H' → Dn.nx σ' H'
  | .brk env' => ∀ σ' H', ResS G W0 Os H σ σ' env' H' → Dn.bk σ' H'
  | .ct env' => ∀ σ' H', ResS G W0 Os H σ σ' env' H' → Dn.ct σ' H'
  | .ret d env' => ∀ σ' v H', Fix G.C σ σ' → Res G W0 Os H σ' env' d v H' → Dn.rt v H'
def tS (G : Sg) (s : S) : TS := fun Dn σ H => ∃ (W0 : Pr) (Os : Nat → Pr) (env : Env), EnvOk G.K H W0 σ env Os ∧ Run G W0 Os H (evS G.C s env) (OutP G W0 Os H σ Dn)

section
variable {G : Sg} {K : PySem.W.Frag} {W W0 W1 O O1 : Pr} {Os Os1 Os2 Os' : Nat → Pr} {H H1 H2 H' : Hp} {σ σ' σ1 σ2 : L2.St} {env env1 env2 env' : Env} {d : D} {v x : V} {Dn : Ends} {s r : S} {A B : E}
theorem ResS.trans (a : ResS G W0 Os H σ σ1 env1 H1) (hp : EnvOk G.K H1 W0 σ1 env1 Os1) (po : Post H Os H1 Os1 fun _ => False) (b : ResS G W0 Os1 H1 σ1 σ2 env2 H2) : ResS G W0 Os H σ σ2 env2 H2 := by
  obtain ⟨f2, Os2, e2, p2⟩ := b
  exact ⟨a.1.trans f2, Os2, e2, po.trans p2 (fun _ z => z.elim) fun a z => po.sub a z⟩
/-- what is wanted, from a later state -/
theorem OutP.later {o : Out} (h : OutP G W0 Os H σ Dn o) (f : Fix G.C σ σ1) (po : Post H Os H1 Os1 O1) (hw : ∀ a, W0 a → W1 a) (hd : ∀ a, W1 a → W0 a ∨ O1 a) : OutP G W1 Os1 H1 σ1 Dn o := by
  have key : ∀ {σ' : L2.St} {env' : Env} {H' : Hp}, ResS G W1 Os1 H1 σ1 σ' env' H' → ResS G W0 Os H σ σ' env' H' := fun ⟨f2, Os2, e2, p2⟩ =>
    ⟨f.trans f2, Os2, e2.shrink hw, po.trans p2 (fun _ z => z.elim) fun a z => po.sub a z⟩
  cases o with
  | nx env' => exact fun σ' H' r => h σ' H' (key r)
  | brk env' => exact fun σ' H' r => h σ' H' (key r)
  | ct env' => exact fun σ' H' r => h σ' H' (key r)
  | ret d env' =>
    intro σ' v H' f2 ⟨Os2, O2, e2, dj2, p2, t⟩
    refine h σ' v H' (f.trans f2) ⟨Os2, O2, e2.shrink fun a z => z.elim (fun z => .inl (hw a z)) .inr, fun a z q => dj2 a z (hw a q), po.trans p2 (fun a z => .inr (.inr z)) (fun a z => po.sub a z), t.shrink fun a z => ?_⟩
    rcases z with (z | z) | z
    · exact .inl (.inl (hw a z))
    · exact .inl (.inr z)
    · exact .inr z
theorem tS_skip (h : tS G .skip Dn σ H) : Dn.nx σ H := by
  obtain ⟨W0, Os, env, e, r⟩ := h
  exact Run.okE (G := G) (W0 := W0) (Os := Os) (H := H) r σ H ⟨Fix.refl _ _, Os, e, Post.refl⟩
theorem tS_brk (h : tS G .brk Dn σ H) : Dn.bk σ H := by
  obtain ⟨W0, Os, env, e, r⟩ := h
  exact Run.okE (G := G) (W0 := W0) (Os := Os) (H := H) r σ H ⟨Fix.refl _ _, Os, e, Post.refl⟩
theorem tS_cnt (h : tS G .cnt Dn σ H) : Dn.ct σ H := by
  obtain ⟨W0, Os, env, e, r⟩ := h
  exact Run.okE (G := G) (W0 := W0) (Os := Os) (H := H) r σ H ⟨Fix.refl _ _, Os, e, Post.refl⟩
theorem tS_seq (h : tS G (.seq s r) Dn σ H) : tSeq (tS G s) (tS G r) Dn σ H := by
  obtain ⟨W0, Os, env, e, rn⟩ := h
  have rn' : Run G W0 Os H (evS G.C s env >>= fun o => match o with | .nx env => evS G.C r env | o => .ok o) (OutP G W0 Os H σ Dn) := rn
  refine ⟨W0, Os, env, e, rn'.bind.mono fun o _ q => ?_⟩
  cases o with
  | nx env1 =>
    intro σ1 H1 ⟨f, Os1, e1, p1⟩
    exact ⟨W0, Os1, env1, e1, Run.back q p1 (fun _ z => z) fun o _ z => z.later f p1 (fun _ z => z) fun _ z => .inl z⟩
  | brk env1 => exact q
  | ct env1 => exact q
  | ret d env1 => exact q
theorem Res.drop (h : Res G W0 Os H σ env1 d v H1) : ResS G W0 Os H σ σ env1 H1 := by
  obtain ⟨Os1, O1, e1, dj, po, t⟩ := h
  exact ⟨Fix.refl _ _, Os1, e1.shrink fun a z => .inl z, po.keep, fun a z => po.sub a (z.imp id fun q => q.elim)⟩
theorem tS_ex (h : tS G (.ex A) Dn σ H) : tDrop (tE G A) Dn σ H := by
  obtain ⟨W0, Os, env, e, rn⟩ := h
  have rn' : Run G W0 Os H (evE G.C A env >>= fun p => R.ok (Out.nx p.2)) (OutP G W0 Os H σ Dn) := rn
  exact ⟨W0, Os, env, e, rn'.bind.mono fun p _ q v H1 res => Run.okE (G := G) (W0 := W0) (Os := Os) (H := H) q σ H1 res.drop⟩
theorem setO_eos {i : Nat} {a : Addr} {Q : Pr} (h : EOs (setO Os i Q) a) : EOs Os a ∨ Q a := by
  obtain ⟨j, z⟩ := h
  by_cases hj : j = i
  · subst hj; rw [setO_same] at z; exact .inr z
  · rw [setO_ne hj] at z; exact .inl ⟨j, z⟩
theorem Fix.set {C : Ctx} {i : Nat} {u : Option V} (h : C.fx = true → i ≠ 0) : Fix C σ (σ.set i u) := fun f => List.getElem?_set_ne (h f)
/-- the thing that an expression gave goes into a name -/
theorem Res.store {i : Nat} {env2 : Env} (h : Res G W0 Os H σ env1 d v H1) (hs : setE G.C env1 i d = .ok env2) : ResS G W0 Os H σ (σ.set i (some v)) env2 H1 := by
  obtain ⟨Os1, O1, e1, dj, po, t⟩ := h
  obtain ⟨hi, rfl, hf⟩ := setE_ok hs
  exact ⟨Fix.set hf, _, e1.set t dj, po.keep, fun a z => z.elim (fun z => (setO_eos z).elim (fun z => po.sub a (.inl z)) fun z => po.sub a (.inr z)) fun z => z.elim⟩
theorem tS_asg {i : Nat} (h : tS G (.asg i A) Dn σ H) : tAsg (tE G A) (gName i) Dn σ H := by
  obtain ⟨W0, Os, env, e, rn⟩ := h
  have rn' : Run G W0 Os H (evE G.C A env >>= fun p => setE G.C p.2 i p.1 >>= fun env => R.ok (Out.nx env)) (OutP G W0 Os H σ Dn) := rn
  refine ⟨W0, Os, env, e, rn'.bind.mono fun p _ q v H1 res => ?_⟩
  have q1 := q.bind
  cases g : setE G.C p.2 i p.1 with
  | bad => rw [g] at q1; exact q1.elim
  | exc c fs => exact (setE_noexc g).elim
  | ok env2 =>
    rw [g] at q1
    exact Run.okE (G := G) (W0 := W0) (Os := Os) (H := H) q1 _ H1 (res.store g)
theorem Stored.resS {is : List Nat} {Qp : Pr} {env2 : Env} (st : Stored G.K W0 H1 σ Os1 is Qp env2 σ') (po : Post H Os H1 Os1 O1) (hQ : ∀ a, Qp a → O1 a) (hz : G.C.fx = true → 0 ∉ is) : ResS G W0 Os H σ σ' env2 H1 := by
  obtain ⟨Os2, e2, s2⟩ := st.ok
  exact ⟨fun f => st.out 0 (hz f), Os2, e2, po.keep, fun a z => z.elim (fun z => (s2 a z).elim (fun z => po.sub a (.inl z)) fun z => po.sub a (.inr (hQ a z))) fun z => z.elim⟩
theorem tS_asgT {is : List Nat} (h : tS G (.asgT is A) Dn σ H) : tAsg (tE G A) (gTup G.K is.length (gNs is)) Dn σ H := by
  obtain ⟨W0, Os, env, e, rn⟩ := h
  have rn' : Run G W0 Os H (evE G.C A env >>= fun p => match p.1 with | .tup ds => setEs G.C p.2 is ds >>= fun env => R.ok (Out.nx env) | _ => R.bad) (OutP G W0 Os H σ Dn) := rn
  refine ⟨W0, Os, env, e, rn'.bind.mono fun p _ q v H1 res => ?_⟩
  obtain ⟨d, env1⟩ := p
  obtain ⟨Os1, O1, e1, dj, po, t⟩ := res
  cases t with
  | tup a c f g hq =>
    have q1 := Run.bind (show Run G W0 Os H (setEs G.C env1 is _ >>= fun env => R.ok (Out.nx env)) _ from q)
    cases gg : setEs G.C env1 is _ with
    | bad => rw [gg] at q1; exact q1.elim
    | exc c fs => exact (setEs_noexc gg).elim
    | ok env2 =>
      rw [gg] at q1
      exact ⟨_, _, rfl, SqT.of a, by rw [c, setEs_len gg], setEs_ok gg c e1 dj (fun k d v q1 q2 => f k v d q2 q1) g hq fun σ' st hz => Run.okE (G := G) (W0 := W0) (Os := Os) (H := H) q1 σ' H1 (st.resS po (fun _ z => z) hz)⟩
  | non => exact q.elim
  | bl => exact q.elim
  | int => exact q.elim
  | str => exact q.elim
  | scr => exact q.elim
  | lstS => exact q.elim
  | lstO => exact q.elim
  | dctS => exact q.elim
  | dctO => exact q.elim
  | dcuS => exact q.elim
  | dcuO => exact q.elim
theorem tS_par {is : List Nat} (h : tS G (.par is A) Dn σ H) : tL G A σ H fun vs H1 => gNs is vs σ H1 Dn.nx := by
  obtain ⟨W0, Os, env, e, rn⟩ := h
  have rn' : Run G W0 Os H (evL G.C A env >>= fun p => setEs G.C p.2 is p.1 >>= fun env => R.ok (Out.nx env)) (OutP G W0 Os H σ Dn) := rn
  refine ⟨W0, Os, env, e, rn'.bind.mono fun p _ q vs H1 res => ?_⟩
  obtain ⟨Os1, O1, Ok, e1, dj, po, hl, ht, hd, hs⟩ := res
  have q1 := q.bind
  cases g : setEs G.C p.2 is p.1 with
  | bad => rw [g] at q1; exact q1.elim
  | exc c fs => exact (setEs_noexc g).elim
  | ok env2 =>
    rw [g] at q1
    exact setEs_ok g hl e1 dj ht hd hs fun σ' st hz => Run.okE (G := G) (W0 := W0) (Os := Os) (H := H) q1 σ' H1 (st.resS po (fun _ z => z) hz)
theorem tS_ifs {a b : S} (h : tS G (.ifs A a b) Dn σ H) : tIfS (tT G A) (tS G a) (tS G b) Dn σ H := by
  obtain ⟨W0, Os, env, e, rn⟩ := h
  have rn' : Run G W0 Os H (evE G.C A env >>= fun p => truth p.1 >>= fun c => if c = true then evS G.C a p.2 else evS G.C b p.2) (OutP G W0 Os H σ Dn) := rn
  refine ⟨W0, Os, env, e, rn'.bind.mono fun p _ q v H1 res => ?_⟩
  obtain ⟨c, hc, q⟩ := Run.truth q
  obtain ⟨d, env1⟩ := p
  have hc : d = .bl c := hc
  subst hc
  refine ⟨c, res.bl, ?_⟩
  obtain ⟨Os1, O1, e1, dj, po, t⟩ := res
  have po' : Post H Os H1 Os1 fun _ => False := ⟨po.keep, fun a z => po.sub a (z.imp id fun q => q.elim)⟩
  have e1' := e1.shrink (W0 := W0) fun a z => .inl z
  cases c with
  | true => exact ⟨W0, Os1, env1, e1', Run.back q po' (fun _ z => z) fun o _ z => z.later (Fix.refl _ _) po' (fun _ z => z) fun _ z => .inl z⟩
  | false => exact ⟨W0, Os1, env1, e1', Run.back q po' (fun _ z => z) fun o _ z => z.later (Fix.refl _ _) po' (fun _ z => z) fun _ z => .inl z⟩
/-- return e; a name is handed out as it is -/
def isVar : E → Bool
  | .var _ => true
  | _ => false
theorem evR_ne {C : Ctx} {A : E} (h : isVar A = false) (env : Env) : evR C A env = evE C A env := by
  cases A <;> first | rfl | (simp [isVar] at h)
theorem tS_ret (hA : isVar A = false) (h : tS G (.ret A) Dn σ H) : tRet (tE G A) Dn σ H := by
  obtain ⟨W0, Os, env, e, rn⟩ := h
  have rn' : Run G W0 Os H (evR G.C A env >>= fun p => R.ok (Out.ret p.1 p.2)) (OutP G W0 Os H σ Dn) := rn
  rw [evR_ne hA] at rn'
  exact ⟨W0, Os, env, e, rn'.bind.mono fun p _ q v H1 res => Run.okE (G := G) (W0 := W0) (Os := Os) (H := H) q σ v H1 (Fix.refl _ _) res⟩
theorem EnvOk.gone {i : Nat} (e : EnvOk K H W0 σ env Os) (t : Tr K H (EW W0 Os) d v (Os i)) : EnvOk K H (orP W0 (Os i)) σ (env.set i none) (setO Os i fun _ => False) := by
  have hw : ∀ a, EW (orP W0 (Os i)) (setO Os i fun _ => False) a → EW W0 Os a := by
    rintro a ((z | z) | ⟨j, z⟩)
    · exact .inl z
    · exact .inr ⟨i, z⟩
    · by_cases hj : j = i
      · subst hj; rw [setO_same] at z; exact z.elim
      · rw [setO_ne hj] at z; exact .inr ⟨j, z⟩
  have su : ∀ {j : Nat} {a : Addr}, setO Os i (fun _ => False) j a → Os j a ∧ j ≠ i := fun {j a} z => by
    by_cases hj : j = i
    · subst hj; rw [setO_same] at z; exact z.elim
    · rw [setO_ne hj] at z; exact ⟨z, hj⟩
  refine ⟨by simp [e.len], fun j d' q => ?_, fun j k a hjk q1 q2 => e.dj j k a hjk (su q1).1 (su q2).1, fun j a q z => ?_, fun j a q => e.lv j a (su q).1, fun a z => z.elim (e.lv0 a) (e.lv i a)⟩
  · by_cases hj : j = i
    · subst hj
      have hl : j < env.length := by have := (List.getElem?_eq_some_iff.mp q).1; simpa using this
      rw [List.getElem?_set_self hl] at q
      cases q
    · rw [List.getElem?_set_ne (Ne.symm hj)] at q
      obtain ⟨v', q1, q2⟩ := e.tr j d' q
      exact ⟨v', q1, by rw [setO_ne hj]; exact q2.shrink hw⟩
  · obtain ⟨q, hj⟩ := su q
    rcases z with z | z
    · exact e.out j a q z
    · exact e.dj j i a hj q z
theorem tS_retV {i : Nat} (h : tS G (.ret (.var i)) Dn σ H) : tRet (tVar i) Dn σ H := by
  obtain ⟨W0, Os, env, e, rn⟩ := h
  have rn' : Run G W0 Os H (getE env i >>= fun d => R.ok (d, env.set i none) >>= fun p => R.ok (Out.ret p.1 p.2)) (OutP G W0 Os H σ Dn) := by
    have : evS G.C (.ret (.var i)) env = ((getE env i >>= fun d => R.ok (d, env.set i none)) >>= fun p => R.ok (Out.ret p.1 p.2)) := rfl
    rw [this] at rn
    cases g : getE env i <;> rw [g] at rn <;> exact rn
  have r1 := rn'.bind
  cases g : getE env i with
  | exc c fs => unfold getE at g; split at g <;> cases g
  | bad => rw [g] at r1; exact r1.elim
  | ok d =>
    rw [g] at r1
    obtain ⟨v, hv, t⟩ := e.tr i d (getE_ok g)
    refine ⟨v, hv, Run.okE (G := G) (W0 := W0) (Os := Os) (H := H) r1 σ v H (Fix.refl _ _) ⟨_, Os i, e.gone t, e.out i, ⟨Keep.refl _ _, fun a z => ?_⟩, t.shrink fun a z => ?_⟩⟩
    · rcases z with z | z
      · exact (setO_eos z).elim .inl fun q => q.elim
      · exact .inl ⟨i, z⟩
    · rcases z with (z | z) | z
      · exact .inl z
      · exact .inr ⟨i, z⟩
      · exact (setO_eos z).elim .inr fun q => q.elim
end
end KS
set_option linter.all false
set_option autoImplicit false
set_option maxRecDepth 100000
namespace KS
open PySem PySem.Spec PyProof.Rows L2

section
variable {G : Sg} {K : PySem.W.Frag} {W W0 W1 O O1 : Pr} {Os Os1 Os2 Os' : Nat → Pr} {H H1 H2 H' : Hp} {σ σ' σ1 σ2 : L2.St} {env env1 env2 env' : Env} {d : D} {v x : V} {Dn : Ends} {A B : E} {Q : VK}
/-- a slot's thing is changed in place and takes in what was reserved -/
theorem EnvOk.put {i : Nat} {Op : Pr} (e : EnvOk K H (orP W0 Op) σ env Os) (dj : ∀ a, Op a → ¬ W0 a) (hv : σ[i]? = some (some v)) (k : Keep H H' (Os i)) (lv : ∀ a, H a ≠ none → H' a ≠ none) (t : Tr K H' (EW W0 (setO Os i (orP (Os i) Op))) d v (orP (Os i) Op)) :
    EnvOk K H' W0 σ (env.set i (some d)) (setO Os i (orP (Os i) Op)) := by
  have ew : ∀ a, EW W0 (setO Os i (orP (Os i) Op)) a → EW (orP W0 Op) Os a := by
    rintro a (z | ⟨j, z⟩)
    · exact .inl (.inl z)
    · by_cases hj : j = i
      · subst hj; rw [setO_same] at z
        exact z.elim (fun z => .inr ⟨j, z⟩) fun z => .inl (.inr z)
      · rw [setO_ne hj] at z; exact .inr ⟨j, z⟩
  refine ⟨by simp [e.len], fun j d' q => ?_, fun j k' a hjk q1 q2 => ?_, fun j a q z => ?_, fun j a q => ?_, fun a z => lv a (e.lv0 a (.inl z))⟩
  · by_cases hj : j = i
    · subst hj
      have hl : j < env.length := by have := (List.getElem?_eq_some_iff.mp q).1; simpa using this
      rw [List.getElem?_set_self hl] at q
      cases q
      refine ⟨v, hv, ?_⟩
      rw [setO_same]
      exact t
    · rw [List.getElem?_set_ne (Ne.symm hj)] at q
      obtain ⟨v', q1, q2⟩ := e.tr j d' q
      refine ⟨v', q1, ?_⟩
      rw [setO_ne hj]
      exact q2.keep k (fun a z => .inr ⟨i, z⟩) (fun a z q => e.dj i j a (Ne.symm hj) z q) fun a z => .inl (ew a z)
  · by_cases hj : j = i
    · subst hj
      rw [setO_same] at q1
      rw [setO_ne (Ne.symm hjk)] at q2
      rcases q1 with r | r
      · exact e.dj j k' a hjk r q2
      · exact e.out k' a q2 (.inr r)
    · rw [setO_ne hj] at q1
      by_cases hk : k' = i
      · subst hk
        rw [setO_same] at q2
        rcases q2 with r | r
        · exact e.dj k' j a (Ne.symm hjk) r q1
        · exact e.out j a q1 (.inr r)
      · rw [setO_ne hk] at q2
        exact e.dj j k' a hjk q1 q2
  · by_cases hj : j = i
    · subst hj; rw [setO_same] at q
      rcases q with r | r
      · exact e.out j a r (.inl z)
      · exact dj a r z
    · rw [setO_ne hj] at q; exact e.out j a q (.inl z)
  · by_cases hj : j = i
    · subst hj; rw [setO_same] at q
      rcases q with r | r
      · exact lv a (e.lv j a r)
      · exact lv a (e.lv0 a (.inr r))
    · rw [setO_ne hj] at q; exact lv a (e.lv j a q)
theorem keep_upd {a : Addr} {us : List V} {o : HO} (ha : H a = some (.lst us)) (hM : W a) : Keep H (L2.upd H a o) W := fun p u q m => by
  by_cases hp : p = a
  · subst hp; rw [ha] at q; cases q; exact (m hM).elim
  · rw [upd_ne hp]; exact q
theorem live_upd {a : Addr} {o : HO} : ∀ p, H p ≠ none → L2.upd H a o p ≠ none := fun p z => by
  by_cases hp : p = a
  · subst hp; rw [upd_same]; simp
  · rw [upd_ne hp]; exact z
theorem stay_upd {a : Addr} {us : List V} {o : HO} (ha : H a = some (.lst us)) (hW : W a) {d : D} {x : V} {O' : Pr} (t : Tr K H W d x O') (n : ¬ O' a) : Tr K (L2.upd H a o) W d x O' :=
  t.keep (M := fun p => p = a) (keep_upd ha rfl) (fun p z => by subst z; exact hW) (fun p z q => by subst z; exact n q) fun p z => .inl z
/-- an item of an owned list is replaced -/
theorem Tr.setAt {a : Addr} {us : List V} {ds : List D} {u : V} {y : D} {Oy : Pr} {j : Nat} (t : Tr K H W (.lst true ds) (.ref a) O) (ha : H a = some (.lst us)) (ty : Tr K H W y u Oy) (hd : ∀ p, O p → ¬ Oy p) (hw : ∀ p, O p → W p) :
    Tr K (L2.upd H a (.lst (us.set j u))) W (.lst true (ds.set j y)) (.ref a) (orP O Oy) := by
  cases t with
  | lstO h1 h2 h3 h4 h5 h6 =>
    rename_i xs Ok
    rw [ha] at h1; cases h1
    have hW := hw a h2
    refine .lstO (Os := fun i => if i = j then Oy else Ok i) upd_same (.inl h2) (by simp [h3]) (fun i x d q1 q2 => ?_) (fun i k p hij z1 z2 => ?_) fun i p z => ?_
    · by_cases hi : i = j
      · subst hi
        rw [if_pos rfl]
        have hl : i < us.length := by have := (List.getElem?_eq_some_iff.mp q1).1; simpa using this
        rw [List.getElem?_set_self hl] at q1
        rw [List.getElem?_set_self (by omega)] at q2
        cases q1; cases q2
        exact stay_upd ha hW ty fun z => hd a h2 z
      · rw [if_neg hi]
        rw [List.getElem?_set_ne (Ne.symm hi)] at q1 q2
        exact stay_upd ha hW (h4 i x d q1 q2) fun z => (h6 i a z).2 rfl
    · by_cases hi : i = j
      · rw [if_pos hi] at z1
        rw [if_neg (fun z => hij (hi.trans z.symm))] at z2
        exact hd p (h6 k p z2).1 z1
      · rw [if_neg hi] at z1
        by_cases hk : k = j
        · rw [if_pos hk] at z2; exact hd p (h6 i p z1).1 z2
        · rw [if_neg hk] at z2; exact h5 i k p hij z1 z2
    · by_cases hi : i = j
      · rw [if_pos hi] at z; exact ⟨.inr z, fun q => hd p (by subst q; exact h2) z⟩
      · rw [if_neg hi] at z; exact ⟨.inl (h6 i p z).1, (h6 i p z).2⟩
theorem post_put {H0 : Hp} {Os0 : Nat → Pr} {i : Nat} {Op : Pr} (po : Post H0 Os0 H Os Op) (k : Keep H H' (Os i)) : Post H0 Os0 H' (setO Os i (orP (Os i) Op)) (fun _ => False) := by
  refine ⟨fun a o q m => k a o (po.keep a o q m) fun z => ?_, fun a z => ?_⟩
  · rcases po.sub a (.inl ⟨i, z⟩) with r | r
    · exact m r
    · rw [q] at r; cases r
  · rcases z with z | z
    · rcases setO_eos z with z | z | z
      · exact po.sub a (.inl z)
      · exact po.sub a (.inl ⟨i, z⟩)
      · exact po.sub a (.inr z)
    · exact z.elim
theorem Run.slot {α : Type} {f : D → R α} {k : α → Prop} {i : Nat} (e : EnvOk G.K H W0 σ env Os) (h : Run G W0 Os H (getE env i >>= f) k) : ∃ w, σ[i]? = some (some w) ∧ ∃ d, getE env i = .ok d ∧ Run G W0 Os H (f d) k := by
  have r1 := h.bind
  cases g : getE env i with
  | exc c fs => unfold getE at g; split at g <;> cases g
  | bad => rw [g] at r1; exact r1.elim
  | ok d =>
    rw [g] at r1
    obtain ⟨w, hw, _⟩ := e.tr i d (getE_ok g)
    exact ⟨w, hw, d, rfl, r1⟩
theorem tS_seti {i : Nat} {B : E} (h : tS G (.seti i B A) Dn σ H) : tAsg (tE G A) (gSub (tVar i) (tE G B) rSetL) Dn σ H := by
  obtain ⟨W0, Os, env, e, rn⟩ := h
  have rn' : Run G W0 Os H (getE env i >>= fun _ => evE G.C A env >>= fun p => evE G.C B p.2 >>= fun q => getE q.2 i >>= fun w => match w, q.1 with
      | .lst true xs, .int k => (match L2.ixN xs.length k with | some j => R.ok (Out.nx (q.2.set i (some (.lst true (xs.set j p.1))))) | none => R.bad)
      | _, _ => R.bad) (OutP G W0 Os H σ Dn) := rn
  obtain ⟨w, hw, _, _, rn2⟩ := Run.slot e rn'
  refine ⟨W0, Os, env, e, rn2.bind.mono fun p _ q v H1 ⟨Os1, O1, e1, dj1, po1, t1⟩ => ?_⟩
  obtain ⟨d, env1⟩ := p
  refine ⟨w, hw, orP W0 O1, Os1, env1, e1, (Run.bind q).back po1 (fun a z => .inl z) fun p2 _ q2 y H2 ⟨Os2, O2, e2, dj2, po2, t2⟩ => ?_⟩
  obtain ⟨kd, env2⟩ := p2
  have q3 := Run.bind q2
  cases g : getE env2 i with
  | exc c fs => unfold getE at g; split at g <;> cases g
  | bad => rw [g] at q3; exact q3.elim
  | ok w2 =>
    rw [g] at q3
    obtain ⟨w', hw', t3⟩ := e2.tr i w2 (getE_ok g)
    rw [hw] at hw'; cases hw'
    have q4 : Run G W0 Os H (match w2, kd with
      | .lst true xs, .int k => (match L2.ixN xs.length k with | some j => R.ok (Out.nx (env2.set i (some (.lst true (xs.set j d))))) | none => R.bad)
      | _, _ => R.bad) (OutP G W0 Os H σ Dn) := q3
    clear q3
    split at q4
    · split at q4
      · rename_i j hj
        have hy := t2.intV
        subst hy
        have t3' := t3
        cases t3' with
        | lstO h1 h2 h3 h4 h5 h6 =>
          rename_i a us Ok
          refine ⟨a, us, _, j, rfl, rfl, h1, by rw [h3]; exact hj, ?_⟩
          have kp := keep_upd (o := .lst (us.set j v)) h1 h2
          have t1' : Tr G.K H2 (EW (orP (orP W0 O1) O2) Os2) d v O1 := t1.later po2 (fun a ⟨j, z⟩ q => e1.out j a z (.inr q)) fun a z => z.elim .inl .inr
          have dO : ∀ p, Os2 i p → ¬ O1 p := fun p z q => e2.out i p z (.inl (.inr q))
          have po02 : Post H Os H2 Os2 O1 := po1.trans po2 (fun a z => .inr (.inl z)) fun a z => po1.sub a z
          refine Run.okE (G := G) (W0 := W0) (Os := Os) (H := H) q4 σ _ ⟨Fix.refl _ _, _, (e2.shrink (W0 := orP W0 O1) fun a z => .inl z).put (Op := O1) dj1 hw kp live_upd ?_, post_put po02 kp⟩
          refine (t3.setAt (j := j) h1 t1' dO fun p z => .inr ⟨i, z⟩).shrink fun p z => ?_
          rcases z with z | z
          · exact .inl (.inl (.inl z))
          · rcases setO_eos z with z | z | z
            · exact .inr z
            · exact .inr ⟨i, z⟩
            · exact .inl (.inl (.inr z))
      · exact q4.elim
    · exact q4.elim

/-! ### append, at a path of places -/
/-- from v by places of tracked lists to w -/
def atP (H : Hp) : V → List Nat → V → Prop
  | v, [], w => v = w
  | v, k :: ks, w => ∃ a us x, v = .ref a ∧ H a = some (.lst us) ∧ us[k]? = some x ∧ atP H x ks w
def pathT (K : PySem.W.Frag) (te : TE) : List Nat → TE
  | [] => te
  | k :: ks => pathT K (tOp (rIxA K) te (tC (.int (k : Nat)))) ks
theorem pathT_of {K : PySem.W.Frag} : ∀ {ks : List Nat} {te : TE} {v w : V}, (∀ Q : VK, Q v H → te σ H Q) → atP H v ks w → Q w H → pathT K te ks σ H Q
  | [], te, v, w, ht, h, q => by
    have h : v = w := h
    subst h; exact ht _ q
  | k :: ks, te, v, w, ht, ⟨a, us, x, hv, ha, hx, h⟩, q => by
    subst hv
    show pathT K (tOp (rIxA K) te (tC (.int (k : Nat)))) ks σ H Q
    exact pathT_of (v := x) (te := tOp (rIxA K) te (tC (.int (k : Nat)))) (fun Q q => ht (fun y H1 => rIxA K y (.int (k : Nat)) H1 Q) (Or.inl ⟨a, us, (k : Nat), x, rfl, rfl, SqL.of ha, atI_nat hx, q⟩)) h q
theorem appP_ok : ∀ {ks : List Nat} {d d' y : D} {v u : V} {O Oy : Pr}, appP y d ks = some d' → Tr K H W d v O → Tr K H W y u Oy → (∀ p, O p → ¬ Oy p) → (∀ p, O p → W p) →
    ∃ c us, atP H v ks (.ref c) ∧ H c = some (.lst us) ∧ us.length < line ∧ O c ∧ Tr K (L2.upd H c (.lst (us ++ [u]))) W d' v (orP O Oy)
  | [], d, d', y, v, u, O, Oy, h, t, ty, hd, hw => by
    unfold appP at h
    split at h
    · split at h
      · cases h
        have t' := t
        cases t' with
        | lstO h1 h2 h3 h4 h5 h6 => exact ⟨_, _, rfl, h1, by omega, h2, t.snoc h1 ty hd hw⟩
      · cases h
    · rename_i hh; cases hh
    · cases h
  | k :: ks, d, d', y, v, u, O, Oy, h, t, ty, hd, hw => by
    unfold appP at h
    split at h
    · rename_i hh; cases hh
    · rename_i xs k' ks' hh
      cases hh
      cases e1 : xs[k]? with
      | none => rw [e1] at h; cases h
      | some dk =>
        rw [e1] at h
        have h : (appP y dk ks).map (fun d' => D.lst true (xs.set k d')) = some d' := h
        cases e2 : appP y dk ks with
        | none => rw [e2] at h; cases h
        | some dk' =>
          rw [e2] at h; cases h
          cases t with
          | lstO h1 h2 h3 h4 h5 h6 =>
            rename_i a us Ok
            have hk : k < us.length := by rw [h3]; exact (List.getElem?_eq_some_iff.mp e1).1
            have tk := h4 k us[k] dk (List.getElem?_eq_getElem hk) e1
            obtain ⟨c, zs, p1, p2, p3, p4, p5⟩ := appP_ok e2 tk ty (fun p z => hd p (h6 k p z).1) fun p z => hw p (h6 k p z).1
            have hca : c ≠ a := (h6 k c p4).2
            have hWc : W c := hw c (h6 k c p4).1
            refine ⟨c, zs, ⟨a, us, us[k], rfl, h1, List.getElem?_eq_getElem hk, p1⟩, p2, p3, (h6 k c p4).1, ?_⟩
            refine .lstO (Os := fun i => if i = k then orP (Ok k) Oy else Ok i) (by rw [upd_ne (Ne.symm hca)]; exact h1) (.inl h2) (by simp [h3]) (fun i x d q1 q2 => ?_) (fun i j p hij z1 z2 => ?_) fun i p z => ?_
            · by_cases hi : i = k
              · subst hi
                rw [if_pos rfl]
                rw [List.getElem?_eq_getElem hk] at q1
                rw [List.getElem?_set_self (by omega)] at q2
                cases q1; cases q2
                exact p5
              · rw [if_neg hi]
                rw [List.getElem?_set_ne (Ne.symm hi)] at q2
                exact stay_upd p2 hWc (h4 i x d q1 q2) fun z => h5 i k c hi z p4
            · by_cases hi : i = k
              · rw [if_pos hi] at z1
                rw [if_neg (fun z => hij (hi.trans z.symm))] at z2
                rcases z1 with z1 | z1
                · exact h5 k j p (fun z => hij (hi.trans z)) z1 z2
                · exact hd p (h6 j p z2).1 z1
              · rw [if_neg hi] at z1
                by_cases hj : j = k
                · rw [if_pos hj] at z2
                  rcases z2 with z2 | z2
                  · exact h5 i k p hi z1 z2
                  · exact hd p (h6 i p z1).1 z2
                · rw [if_neg hj] at z2; exact h5 i j p hij z1 z2
            · by_cases hi : i = k
              · rw [if_pos hi] at z
                rcases z with z | z
                · exact ⟨.inl (h6 k p z).1, (h6 k p z).2⟩
                · exact ⟨.inr z, fun q => hd p (by subst q; exact h2) z⟩
              · rw [if_neg hi] at z; exact ⟨.inl (h6 i p z).1, (h6 i p z).2⟩
    · cases h
theorem app_fin {i : Nat} {path : List Nat} {w : V} (hw : σ[i]? = some (some w)) {d w2 : D} {u : V} (res : Res G W0 Os H σ env1 d u H1) (g : getE env1 i = .ok w2)
    (q : Run G W0 Os H (match appP d w2 path with | some d' => R.ok (Out.nx (env1.set i (some d'))) | none => R.bad) (OutP G W0 Os H σ Dn)) :
    ∃ c us, atP H1 w path (.ref c) ∧ H1 c = some (.lst us) ∧ us.length < line ∧ Dn.nx σ (L2.upd H1 c (.lst (us ++ [u]))) := by
  obtain ⟨Os1, O1, e1, dj1, po1, t1⟩ := res
  obtain ⟨w', hw', t3⟩ := e1.tr i w2 (getE_ok g)
  rw [hw] at hw'; cases hw'
  cases g2 : appP d w2 path with
  | none => rw [g2] at q; exact q.elim
  | some d' =>
    rw [g2] at q
    obtain ⟨c, us, p1, p2, p3, p4, p5⟩ := appP_ok g2 t3 t1 (fun p z q => e1.out i p z (.inr q)) fun p z => .inr ⟨i, z⟩
    have kp := keep_upd (o := .lst (us ++ [u])) p2 p4
    refine ⟨c, us, p1, p2, p3, Run.okE (G := G) (W0 := W0) (Os := Os) (H := H) q σ _ ⟨Fix.refl _ _, _, e1.put dj1 hw kp live_upd (p5.shrink fun p z => ?_), post_put po1 kp⟩⟩
    rcases z with z | z
    · exact .inl (.inl z)
    · rcases setO_eos z with z | z | z
      · exact .inr z
      · exact .inr ⟨i, z⟩
      · exact .inl (.inr z)
theorem tyL {K : PySem.W.Frag} {c : Addr} {us : List V} (h : H c = some (.lst us)) : tyV K "list" (.ref c) H := .inl ⟨rfl, us, SqL.of h⟩
theorem tS_app {i : Nat} (h : tS G (.app i A) Dn σ H) : tDrop (tBM G.K "list" rAppend (tVar i) (tCons (tE G A) tNil)) Dn σ H := by
  obtain ⟨W0, Os, env, e, rn⟩ := h
  have rn' : Run G W0 Os H (getE env i >>= fun d0 => if isListD d0 = true then evE G.C A env >>= fun p => getE p.2 i >>= fun w => (match appP p.1 w [] with | some d' => R.ok (Out.nx (p.2.set i (some d'))) | none => R.bad) else R.bad) (OutP G W0 Os H σ Dn) := rn
  obtain ⟨w, hw, d00, g00, rn1⟩ := Run.slot e rn'
  obtain ⟨hc, rn2⟩ := rn1.guard
  obtain ⟨w', hw', t0⟩ := e.tr i d00 (getE_ok g00)
  rw [hw] at hw'; cases hw'
  have ty : tyV G.K "list" w H := by
    cases d00 <;> first | (simp [isListD] at hc; done) | skip
    obtain ⟨a, xs, rfl, ha, _⟩ := t0.lstV
    exact tyL ha
  refine ⟨w, hw, ty, W0, Os, env, e, rn2.bind.mono fun p _ q u H1 res => ?_⟩
  have q3 := Run.bind q
  cases g : getE p.2 i with
  | exc c fs => unfold getE at g; split at g <;> cases g
  | bad => rw [g] at q3; exact q3.elim
  | ok w2 =>
    rw [g] at q3
    obtain ⟨c, us, p1, p2, p3, p4⟩ := app_fin hw res g q3
    have p1 : w = .ref c := p1
    exact ⟨c, us, u, p1, rfl, p2, by rw [← line_eq]; exact p3, p4⟩
theorem flat_tr {y : D} (h : flat y = true) : Tr K H W y (toV y) O := by
  cases y <;> first | (simp [flat] at h; done) | skip
  · exact .non
  · exact .bl
  · exact .int
  · exact .str
theorem tS_appP {i : Nat} {path : List Nat} {y : D} (h : tS G (.appP i path y) Dn σ H) : tDrop (tBM G.K "list" rAppend (pathT G.K (tVar i) path) (tCons (tC (toV y)) tNil)) Dn σ H := by
  obtain ⟨W0, Os, env, e, rn⟩ := h
  have rn' : Run G W0 Os H (getE env i >>= fun d0 => if flat y = true then (match appP y d0 path with | some d' => R.ok (Out.nx (env.set i (some d'))) | none => R.bad) else R.bad) (OutP G W0 Os H σ Dn) := rn
  obtain ⟨w, hw, d00, g00, rn1⟩ := Run.slot e rn'
  obtain ⟨hc, rn2⟩ := rn1.guard
  have res : Res G W0 Os H σ env y (toV y) H := ⟨Os, fun _ => False, e.shrink fun a z => z.elim id fun z => z.elim, fun _ z => z.elim, Post.refl, flat_tr hc⟩
  obtain ⟨c, us, p1, p2, p3, p4⟩ := app_fin hw res g00 rn2
  refine pathT_of (v := w) (fun Q q => ⟨w, hw, q⟩) p1 ⟨tyL p2, c, us, toV y, rfl, rfl, p2, by rw [← line_eq]; exact p3, p4⟩

/-! ### += -/
theorem Tr.cat {a : Addr} {us ws : List V} {ds es : List D} {Oy : Pr} {Ok2 : Nat → Pr} (t : Tr K H W (.lst true ds) (.ref a) O) (ha : H a = some (.lst us)) (hl : ws.length = es.length)
    (ty : ∀ (i : Nat) (x : V) (d : D), ws[i]? = some x → es[i]? = some d → Tr K H W d x (Ok2 i)) (hk : ∀ (i j : Nat) (p : Addr), i ≠ j → Ok2 i p → ¬ Ok2 j p) (hs : ∀ (i : Nat) (p : Addr), Ok2 i p → Oy p) (hd : ∀ p, O p → ¬ Oy p) (hw : ∀ p, O p → W p) :
    Tr K (L2.upd H a (.lst (us ++ ws))) W (.lst true (ds ++ es)) (.ref a) (orP O Oy) := by
  cases t with
  | lstO h1 h2 h3 h4 h5 h6 =>
    rename_i xs Ok
    rw [ha] at h1; cases h1
    have hW := hw a h2
    refine .lstO (Os := fun i => if i < us.length then Ok i else Ok2 (i - us.length)) upd_same (.inl h2) (by simp [h3, hl]) (fun i x d q1 q2 => ?_) (fun i j p hij z1 z2 => ?_) fun i p z => ?_
    · by_cases hi : i < us.length
      · rw [if_pos hi]
        rw [List.getElem?_append_left hi] at q1
        rw [List.getElem?_append_left (by omega)] at q2
        exact stay_upd ha hW (h4 i x d q1 q2) fun z => (h6 i a z).2 rfl
      · rw [if_neg hi]
        rw [List.getElem?_append_right (by omega)] at q1
        rw [List.getElem?_append_right (by omega), ← h3] at q2
        exact stay_upd ha hW (ty _ x d q1 q2) fun z => hd a h2 (hs _ a z)
    · by_cases hi : i < us.length
      · rw [if_pos hi] at z1
        by_cases hj : j < us.length
        · rw [if_pos hj] at z2; exact h5 i j p hij z1 z2
        · rw [if_neg hj] at z2; exact hd p (h6 i p z1).1 (hs _ p z2)
      · rw [if_neg hi] at z1
        by_cases hj : j < us.length
        · rw [if_pos hj] at z2; exact hd p (h6 j p z2).1 (hs _ p z1)
        · rw [if_neg hj] at z2; exact hk _ _ p (by omega) z1 z2
    · by_cases hi : i < us.length
      · rw [if_pos hi] at z; exact ⟨.inl (h6 i p z).1, (h6 i p z).2⟩
      · rw [if_neg hi] at z; exact ⟨.inr (hs _ p z), fun q => hd p (by subst q; exact h2) (hs _ p z)⟩
theorem Tr.lstKids {o : Bool} {ys : List D} {v : V} (t : Tr K H W (.lst o ys) v O) : ∃ (b : Addr) (zs : List V) (Ok2 : Nat → Pr), v = .ref b ∧ H b = some (.lst zs) ∧ zs.length = ys.length ∧ (∀ (i : Nat) (x : V) (d : D), zs[i]? = some x → ys[i]? = some d → Tr K H W d x (Ok2 i)) ∧ (∀ (i j : Nat) (p : Addr), i ≠ j → Ok2 i p → ¬ Ok2 j p) ∧ ∀ (i : Nat) (p : Addr), Ok2 i p → O p := by
  cases t with
  | lstS a c f => exact ⟨_, _, fun _ _ => False, rfl, a.1, c, f, fun _ _ _ _ z => z.elim, fun _ _ z => z.elim⟩
  | lstO a b c f g hh => exact ⟨_, _, _, rfl, a, c, f, g, fun i p z => (hh i p z).1⟩
/-- += of ints and of lists; *= of ints -/
def rIadd : R2 := fun x y H Q => rI0 (fun i j => .int (i + j)) x y H Q ∨ rExt2 x y H Q
theorem ip_addA {X : Cx} : PIp X .Add rIadd := (OpR.or iop_add iop_ext)
theorem ip_mulA {X : Cx} : PIp X .Mult (rI CMul fun i j => .int (i * j)) := iop_mul
def tiP : Prim → TIp
  | .add => rIadd
  | .mul => rI CMul fun i j => .int (i * j)
  | _ => fun _ _ _ _ => False
theorem set_self {i : Nat} {w : V} (hw : σ[i]? = some (some w)) : σ.set i (some w) = σ := by
  refine List.ext_getElem? fun j => ?_
  by_cases hj : i = j
  · subst hj
    rw [List.getElem?_set_self (List.getElem?_eq_some_iff.mp hw).1, hw]
  · rw [List.getElem?_set_ne hj]
theorem tS_aug {i : Nat} {p : Prim} (hp : p = .add ∨ p = .mul) (h : tS G (.aug i p A) Dn σ H) : tAug i (tE G A) (tiP p) Dn σ H := by
  obtain ⟨W0, Os, env, e, rn⟩ := h
  have rn' : Run G W0 Os H (getE env i >>= fun _ => evE G.C A env >>= fun q => getE q.2 i >>= fun w => match w, q.1 with
    | .int a, .int b => prim p [.int a, .int b] >>= fun r => setE G.C q.2 i r >>= fun env => R.ok (Out.nx env)
    | .lst true xs, .lst o ys => if (p == .add && (o || noOwnL ys) && decide (xs.length + ys.length ≤ line)) = true then R.ok (Out.nx (q.2.set i (some (.lst true (xs ++ ys))))) else R.bad
    | _, _ => R.bad) (OutP G W0 Os H σ Dn) := rn
  obtain ⟨w, hw, d00, g00, rn1⟩ := Run.slot e rn'
  refine ⟨w, hw, W0, Os, env, e, rn1.bind.mono fun q _ qq u H1 ⟨Os1, O1, e1, dj1, po1, t1⟩ => ?_⟩
  obtain ⟨d, env1⟩ := q
  have q3 := Run.bind qq
  cases g : getE env1 i with
  | exc c fs => unfold getE at g; split at g <;> cases g
  | bad => rw [g] at q3; exact q3.elim
  | ok w2 =>
    rw [g] at q3
    obtain ⟨w', hw', t3⟩ := e1.tr i w2 (getE_ok g)
    rw [hw] at hw'; cases hw'
    have hi : i < env1.length := (List.getElem?_eq_some_iff.mp (getE_ok g)).1
    have q4 : Run G W0 Os H (match w2, d with
      | .int a, .int b => prim p [.int a, .int b] >>= fun r => setE G.C env1 i r >>= fun env => R.ok (Out.nx env)
      | .lst true xs, .lst o ys => if (p == .add && (o || noOwnL ys) && decide (xs.length + ys.length ≤ line)) = true then R.ok (Out.nx (env1.set i (some (.lst true (xs ++ ys))))) else R.bad
      | _, _ => R.bad) (OutP G W0 Os H σ Dn) := q3
    clear q3 qq
    split at q4
    · have ha := t3.intV
      have hb := t1.intV
      subst ha; subst hb
      have fin : ∀ r : Int, Run G W0 Os H (setE G.C env1 i (.int r) >>= fun env => R.ok (Out.nx env)) (OutP G W0 Os H σ Dn) → Dn.nx (σ.set i (some (.int r))) H1 := fun r q => by
        have q1 := q.bind
        cases gs : setE G.C env1 i (.int r) with
        | bad => rw [gs] at q1; exact q1.elim
        | exc c fs => exact (setE_noexc gs).elim
        | ok env2 =>
          rw [gs] at q1
          exact Run.okE (G := G) (W0 := W0) (Os := Os) (H := H) q1 _ H1 (Res.store ⟨Os1, O1, e1, dj1, po1, .int⟩ gs)
      rcases hp with rfl | rfl
      · exact .inl ⟨_, _, rfl, rfl, fin _ q4⟩
      · have q5 := Run.bind q4
        simp only [prim, pMul] at q5
        split at q5
        · rename_i hc
          refine ⟨_, _, rfl, rfl, ?_, fin _ q5⟩
          simp only [Bool.or_eq_true, decide_eq_true_eq] at hc
          exact hc.imp (fun z => by omega) fun z => by omega
        · exact q5.elim
    · split at q4
      · rename_i hc
        simp only [Bool.and_eq_true, decide_eq_true_eq, Bool.or_eq_true] at hc
        have hpa : p = .add := by
          rcases hp with rfl | rfl
          · rfl
          · simp at hc
        subst hpa
        have t3' := t3
        cases t3' with
        | lstO h1 h2 h3 h4 h5 h6 =>
          rename_i c us Ok
          obtain ⟨b, zs, Ok2, hv, hb, hl2, ht2, hd2, hs2⟩ := t1.lstKids
          subst hv
          refine .inr ⟨c, b, us, zs, rfl, rfl, h1, hb, by rw [h3, hl2, ← line_eq]; exact hc.2, ?_⟩
          have kp := keep_upd (o := .lst (us ++ zs)) h1 h2
          show Dn.nx (σ.set i (some (.ref c))) _
          rw [set_self hw]
          refine Run.okE (G := G) (W0 := W0) (Os := Os) (H := H) q4 σ _ ⟨Fix.refl _ _, _, e1.put dj1 hw kp live_upd ?_, post_put po1 kp⟩
          refine (t3.cat h1 hl2 ht2 hd2 hs2 (fun p z q => e1.out i p z (.inr q)) fun p z => .inr ⟨i, z⟩).shrink fun p z => ?_
          rcases z with z | z
          · exact .inl (.inl z)
          · rcases setO_eos z with z | z | z
            · exact .inr z
            · exact .inr ⟨i, z⟩
            · exact .inl (.inr z)
      · exact q4.elim
    · exact q4.elim
theorem gSub_mono {i : Nat} {B : E} {v : V} {R R' : L2.St → Hp → Prop} (h : gSub (tVar i) (tE G B) rSetL v σ H R) (hr : ∀ σ' H', R σ' H' → R' σ' H') : gSub (tVar i) (tE G B) rSetL v σ H R' := by
  obtain ⟨w, hw, z⟩ := h
  refine ⟨w, hw, tE_mono z fun y H2 q => ?_⟩
  obtain ⟨a, us, k, j, h1, h2, h3, h4, h5⟩ := q
  exact ⟨a, us, k, j, h1, h2, h3, h4, hr _ _ h5⟩
/-- told[i], told[j] = (a, b) with flat things -/
theorem flat_val {d : D} {v : V} (h : flat d = true) (t : Tr K H W d v O) : v = toV d ∧ ∀ {K2 : PySem.W.Frag} (H2 : Hp) (W2 O2 : Pr), Tr K2 H2 W2 d v O2 := by
  cases d <;> first | (simp [flat] at h; done) | skip
  · cases t; exact ⟨rfl, fun _ _ _ => .non⟩
  · cases t; exact ⟨rfl, fun _ _ _ => .bl⟩
  · cases t; exact ⟨rfl, fun _ _ _ => .int⟩
  · cases t; exact ⟨rfl, fun _ _ _ => .str⟩
theorem tS_swp {i : Nat} {ix jx a b : E} (h : tS G (.swp i ix jx a b) Dn σ H) : tAsg (tTup (tL G (.cons a (.cons b .nil)))) (gTup G.K 2 (gCons (gSub (tVar i) (tE G ix) rSetL) (gCons (gSub (tVar i) (tE G jx) rSetL) gNil))) Dn σ H := by
  obtain ⟨W0, Os, env, e, rn⟩ := h
  have ev : evS G.C (.swp i ix jx a b) env = (evL G.C (.cons a (.cons b .nil)) env >>= fun p => match p.1 with | [d1, d2] => if (flat d1 && flat d2) = true then evS G.C (.seq (.seti i ix (.lit d1)) (.seti i jx (.lit d2))) p.2 else R.bad | _ => R.bad) := by
    show (evE G.C a env >>= fun p1 => evE G.C b p1.2 >>= fun p2 => _) = ((evE G.C a env >>= fun p1 => (evE G.C b p1.2 >>= fun p2 => R.ok ([p2.1], p2.2)) >>= fun q => R.ok (p1.1 :: q.1, q.2)) >>= _)
    cases evE G.C a env with
    | bad => rfl
    | exc c fs => rfl
    | ok p1 =>
      show (evE G.C b p1.2 >>= fun p2 => _) = (((evE G.C b p1.2 >>= fun p2 => R.ok ([p2.1], p2.2)) >>= fun q => R.ok (p1.1 :: q.1, q.2)) >>= _)
      cases evE G.C b p1.2 with
      | bad => rfl
      | exc c fs => rfl
      | ok p2 => rfl
  rw [ev] at rn
  refine ⟨W0, Os, env, e, rn.bind.mono fun p _ q vs H1 res => ?_⟩
  obtain ⟨ds, env1⟩ := p
  obtain ⟨Os1, O1, Ow, e1, dj1, po1, hl, ht, _, _⟩ := res
  match ds, vs, hl with
  | [d1, d2], [v1, v2], _ =>
    refine ⟨by show 2 ≤ sizeLine; decide, fun p0 hp0 => ?_⟩
    have q1 : Run G W0 Os H (if (flat d1 && flat d2) = true then evS G.C (.seq (.seti i ix (.lit d1)) (.seti i jx (.lit d2))) env1 else R.bad) (OutP G W0 Os H σ Dn) := q
    obtain ⟨hf, q2⟩ := Run.guard (G := G) (W0 := W0) (Os := Os) (H := H) q1
    simp only [Bool.and_eq_true] at hf
    obtain ⟨r1, t1⟩ := flat_val hf.1 (ht 0 d1 v1 rfl rfl)
    obtain ⟨r2, t2⟩ := flat_val hf.2 (ht 1 d2 v2 rfl rfl)
    have sm : Same H1 (L2.upd H1 p0 (.tup [v1, v2])) := same_upd hp0
    have e2 := (e1.shrink (W0 := W0) fun a z => .inl z).same sm
    have po2 : Post H Os (L2.upd H1 p0 (.tup [v1, v2])) Os1 fun _ => False := ⟨fun a o q m => sm _ _ (po1.keep a o q m), fun a z => po1.sub a (z.imp id fun z => z.elim)⟩
    have sq : tS G (.seq (.seti i ix (.lit d1)) (.seti i jx (.lit d2))) Dn σ (L2.upd H1 p0 (.tup [v1, v2])) :=
      ⟨W0, Os1, env1, e2, Run.back q2 po2 (fun _ z => z) fun o _ z => z.later (Fix.refl _ _) po2 (fun _ z => z) fun _ z => .inl z⟩
    refine ⟨p0, [v1, v2], rfl, SqT.of upd_same, rfl, v1, [v2], rfl, ?_⟩
    have s1 := tS_seti (tS_seq sq)
    have s2 : gSub (tVar i) (tE G ix) rSetL v1 σ (L2.upd H1 p0 (.tup [v1, v2])) fun σ' H' => tS G (.seti i jx (.lit d2)) Dn σ' H' := tE_lit (fun _ H2 W2 => t1 H2 W2 _) s1
    refine gSub_mono s2 fun σ' H' z => ?_
    have s3 := tS_seti z
    have s4 : gSub (tVar i) (tE G jx) rSetL v2 σ' H' Dn.nx := tE_lit (fun _ H2 W2 => t2 H2 W2 _) s3
    exact ⟨v2, [], rfl, gSub_mono s4 fun σ'' H'' z => ⟨rfl, z⟩⟩
end
end KS
set_option linter.all false
set_option autoImplicit false
set_option maxRecDepth 100000
namespace KS
open PySem PySem.Spec PyProof.Rows L2
section
variable {G : Sg} {K : PySem.W.Frag} {W W0 W1 O O1 : Pr} {Os Os1 Os2 Os' : Nat → Pr} {H H1 H2 H' : Hp} {σ σ' σ1 σ2 : L2.St} {env env1 env2 env' : Env} {d : D} {v x : V} {Dn : Ends} {A B Cc : E} {Q : VK}
theorem tE_frz (h : tE G (.frz A) σ H Q) : tE G A σ H Q := by
  obtain ⟨W0, Os, env, e, r⟩ := h
  have r' : Run G W0 Os H (evE G.C A env >>= fun p => .ok (frz p.1, p.2)) fun p => ∀ v H', Res G W0 Os H σ p.2 p.1 v H' → Q v H' := r
  refine ⟨W0, Os, env, e, r'.bind.mono fun p _ q v H1 ⟨Os1, O1, e1, dj, po, t⟩ => ?_⟩
  refine Run.okE (G := G) (W0 := W0) (Os := Os) (H := H) q v H1 ⟨Os1, fun _ => False, e1.shrink fun a z => z.elim .inl fun z => z.elim, fun _ z => z.elim, ⟨po.keep, fun a z => po.sub a (z.imp id fun z => z.elim)⟩, ?_⟩
  refine t.frz fun a z => ?_
  rcases z with (z | z) | ⟨j, z⟩
  · exact ⟨.inl (.inl z), fun q => dj a q z⟩
  · exact z.elim
  · exact ⟨.inr ⟨j, z⟩, fun q => e1.out j a z (.inr q)⟩
/-- two comparisons in a row: the middle one is taken once -/
theorem tE_chn {p p' : Prim} {r r' : R2} (hr : PrimR G p (r2L r)) (hr' : PrimR G p' (r2L r')) (h : tE G (.chn p p' A B Cc) σ H Q) : tChain r r' (tE G A) (tE G B) (tE G Cc) σ H Q := by
  obtain ⟨W0, Os, env, e, rn⟩ := h
  have rn' : Run G W0 Os H (evE G.C A env >>= fun x => evE G.C B x.2 >>= fun y => if (flat x.1 && flat y.1) = true then (prim p [x.1, y.1] >>= fun z => KS.truth z >>= fun b => if b = true then
      (evE G.C Cc y.2 >>= fun z => prim p' [y.1, z.1] >>= fun d => KS.truth d >>= fun _ => R.ok (d, z.2)) else R.ok (.bl false, y.2)) else .bad) fun p => ∀ v H', Res G W0 Os H σ p.2 p.1 v H' → Q v H' := rn
  refine ⟨W0, Os, env, e, rn'.bind.mono fun x _ q u H1 ⟨Os1, O1, e1, dj1, po1, t1⟩ => ⟨orP W0 O1, Os1, x.2, e1, (Run.bind q).back po1 (fun a z => .inl z) fun y _ q2 w H2 ⟨Os2, O2, e2, dj2, po2, t2⟩ => ?_⟩⟩
  obtain ⟨dx, envx⟩ := x
  obtain ⟨dy, envy⟩ := y
  obtain ⟨hf, q3⟩ := Run.guard q2
  simp only [Bool.and_eq_true] at hf
  obtain ⟨fx, fy⟩ := hf
  have t1 : Tr G.K H1 (EW (orP W0 O1) Os1) dx u O1 := t1
  have t2 : Tr G.K H2 (EW (orP (orP W0 O1) O2) Os2) dy w O2 := t2
  have q4 := Run.bind q3
  have hu : ∀ {Hh : Hp} {Ww Oo : Pr}, Tr G.K Hh Ww dx u Oo := fun {Hh Ww Oo} => by
    cases dx <;> first | (simp [flat] at fx; done) | skip
    · cases t1; exact .non
    · rw [t1.blV]; exact .bl
    · rw [t1.intV]; exact .int
    · rw [t1.strV]; exact .str
  have hw : ∀ {Hh : Hp} {Ww Oo : Pr}, Tr G.K Hh Ww dy w Oo := fun {Hh Ww Oo} => by
    cases dy <;> first | (simp [flat] at fy; done) | skip
    · cases t2; exact .non
    · rw [t2.blV]; exact .bl
    · rw [t2.intV]; exact .int
    · rw [t2.strV]; exact .str
  cases g : prim p [dx, dy] with
  | exc c fs => exact (prim_noexc g).elim
  | bad => rw [g] at q4; exact q4.elim
  | ok dz =>
    rw [g] at q4
    obtain ⟨b, hb, q5⟩ := Run.truth q4
    subst hb
    have sub2 : ∀ {D2 : Prop}, D2 → D2 := fun z => z
    have go : r2L r [u, w] H2 fun z H3 => ∃ k, z = .bl k ∧ (if k = true then tE G Cc σ H3 fun w' H4 => r' w w' H4 Q else Q (.bl false) H3) := by
      refine hr (EW (orP (orP W0 O1) O2) Os2) [dx, dy] [u, w] (.bl b) H2 _ rfl (fun k d v h1 h2 => ?_) g fun z H3 O3 sm t3 hO => ?_
      · match k with
        | 0 => cases h1; cases h2; exact ⟨fun _ => False, hu⟩
        | 1 => cases h1; cases h2; exact ⟨fun _ => False, hw⟩
        | k + 2 => simp at h1
      · refine ⟨b, t3.blV, ?_⟩
        have e3 : EnvOk G.K H3 W0 σ envy Os2 := (e2.same sm).shrink fun a z => .inl (.inl z)
        have po3 : Post H Os H3 Os2 (fun _ => False) := by
          have := po1.trans (O := fun _ => False) po2 (fun _ z => z.elim) fun a z => po1.sub a z
          exact ⟨fun a o q m => sm _ _ (this.keep a o q m), this.sub⟩
        cases b with
        | false =>
          rw [if_neg Bool.false_ne_true]
          exact Run.okE (G := G) (W0 := W0) (Os := Os) (H := H) q5 _ H3 ⟨Os2, fun _ => False, e3.shrink fun a z => z.elim id fun z => z.elim, fun _ z => z.elim, po3, .bl⟩
        | true =>
          rw [if_pos rfl]
          refine ⟨W0, Os2, envy, e3, (Run.bind q5).back po3 (fun a z => z) fun z4 _ q6 w' H4 ⟨Os4, O4, e4, dj4, po4, t4⟩ => ?_⟩
          have q7 := Run.bind q6
          cases g2 : prim p' [dy, z4.1] with
          | exc c fs => exact (prim_noexc g2).elim
          | bad => rw [g2] at q7; exact q7.elim
          | ok dd =>
            rw [g2] at q7
            obtain ⟨b2, hb2, q8⟩ := Run.truth q7
            subst hb2
            have last : r2L r' [w, w'] H4 Q := by
              refine hr' (EW (orP W0 O4) Os4) [dy, z4.1] [w, w'] (.bl b2) H4 _ rfl (fun k d v h1 h2 => ?_) g2 fun z H5 O5 sm5 t5 hO5 => ?_
              · match k with
                | 0 => cases h1; cases h2; exact ⟨fun _ => False, hw⟩
                | 1 => cases h1; cases h2; exact ⟨_, t4⟩
                | k + 2 => simp at h1
              · rw [t5.blV]
                have po5 := po3.trans (O := fun _ => False) po4 (fun _ z => z.elim) fun a z => po3.sub a z
                exact Run.okE (G := G) (W0 := W0) (Os := Os) (H := H) q8 _ H5 ⟨Os4, fun _ => False, (e4.same sm5).shrink fun a z => z.elim .inl fun z => z.elim, fun _ z => z.elim, ⟨fun a o q m => sm5 _ _ (po5.keep a o q m), po5.sub⟩, .bl⟩
            obtain ⟨_, _, hh, q9⟩ := last
            cases hh
            exact q9
    obtain ⟨_, _, hh, q9⟩ := go
    cases hh
    exact q9
/-- an item leaves an owned list -/
theorem Tr.erase {a : Addr} {us : List V} {ds : List D} {y : D} {j : Nat} (t : Tr K H W (.lst true ds) (.ref a) O) (ha : H a = some (.lst us)) (hd : ds[j]? = some y) (hw : ∀ p, O p → W p) :
    ∃ u Oy, us[j]? = some u ∧ Tr K H W y u Oy ∧ (∀ p, Oy p → O p ∧ p ≠ a) ∧ Tr K (L2.upd H a (.lst (us.eraseIdx j))) W y u Oy ∧ Tr K (L2.upd H a (.lst (us.eraseIdx j))) W (.lst true (ds.eraseIdx j)) (.ref a) (fun p => O p ∧ ¬ Oy p) := by
  cases t with
  | lstO h1 h2 h3 h4 h5 h6 =>
    rename_i xs Ok
    rw [ha] at h1; cases h1
    have hW := hw a h2
    have hj : j < us.length := by rw [h3]; exact (List.getElem?_eq_some_iff.mp hd).1
    have hu := List.getElem?_eq_getElem hj
    refine ⟨us[j], Ok j, hu, h4 j _ y hu hd, fun p z => h6 j p z, stay_upd ha hW (h4 j _ y hu hd) fun z => (h6 j a z).2 rfl, ?_⟩
    refine .lstO (Os := fun i => if i < j then Ok i else Ok (i + 1)) upd_same ⟨h2, fun z => (h6 j a z).2 rfl⟩ (by rw [List.length_eraseIdx, List.length_eraseIdx, h3]) (fun i x d q1 q2 => ?_) (fun i k p hik z1 z2 => ?_) fun i p z => ?_
    · rw [List.getElem?_eraseIdx] at q1 q2
      by_cases hi : i < j
      · rw [if_pos hi] at q1 q2
        simp only [hi, if_true]
        exact stay_upd ha hW (h4 i x d q1 q2) fun z => (h6 i a z).2 rfl
      · rw [if_neg hi] at q1 q2
        simp only [hi, if_false]
        exact stay_upd ha hW (h4 (i + 1) x d q1 q2) fun z => (h6 (i + 1) a z).2 rfl
    · by_cases hi : i < j
      · simp only [hi, if_true] at z1
        by_cases hk : k < j
        · simp only [hk, if_true] at z2; exact h5 i k p hik z1 z2
        · simp only [hk, if_false] at z2; exact h5 i (k + 1) p (by omega) z1 z2
      · simp only [hi, if_false] at z1
        by_cases hk : k < j
        · simp only [hk, if_true] at z2; exact h5 (i + 1) k p (by omega) z1 z2
        · simp only [hk, if_false] at z2; exact h5 (i + 1) (k + 1) p (by omega) z1 z2
    · by_cases hi : i < j
      · simp only [hi, if_true] at z
        exact ⟨⟨(h6 i p z).1, fun q => h5 i j p (by omega) z q⟩, (h6 i p z).2⟩
      · simp only [hi, if_false] at z
        exact ⟨⟨(h6 _ p z).1, fun q => h5 (i + 1) j p (by omega) z q⟩, (h6 _ p z).2⟩
theorem erase_last {α : Type} (xs : List α) : xs.eraseIdx (xs.length - 1) = xs.dropLast := by
  rw [List.eraseIdx_eq_take_drop_succ, List.dropLast_eq_take]
  cases xs with
  | nil => rfl
  | cons x xs => simp
/-- the taken item and what is left -/
theorem pop_res {i j : Nat} {w : V} {xs : List D} {y : D} (hw : σ[i]? = some (some w)) (e1 : EnvOk G.K H1 W0 σ env1 Os1) (po1 : Post H Os H1 Os1 (fun _ => False)) (g : env1[i]? = some (some (.lst true xs))) (hy : xs[j]? = some y) :
    ∃ a us u, w = .ref a ∧ H1 a = some (.lst us) ∧ us.length = xs.length ∧ us[j]? = some u ∧ Res G W0 Os H σ (env1.set i (some (.lst true (xs.eraseIdx j)))) y u (L2.upd H1 a (.lst (us.eraseIdx j))) := by
  obtain ⟨w', hw', t⟩ := e1.tr i _ g
  rw [hw] at hw'; cases hw'
  have t' := t
  cases t' with
  | lstO h1 h2 h3 h4 h5 h6 =>
    rename_i a us Ok
    obtain ⟨u, Oy, q1, q2, q3, q4, q5⟩ := t.erase h1 hy fun p z => .inr ⟨i, z⟩
    refine ⟨a, us, u, rfl, h1, h3, q1, ?_⟩
    have kp : Keep H1 (L2.upd H1 a (.lst (us.eraseIdx j))) (Os1 i) := keep_upd h1 h2
    have lv : ∀ p, Os1 i p → L2.upd H1 a (.lst (us.eraseIdx j)) p ≠ none := fun p z => live_upd p (e1.lv i p z)
    have sub : ∀ p, EW (orP W0 Oy) (setO Os1 i fun p => Os1 i p ∧ ¬ Oy p) p → EW W0 Os1 p := fun p z => by
      rcases z with (z | z) | z
      · exact .inl z
      · exact .inr ⟨i, (q3 p z).1⟩
      · rcases setO_eos z with z | z
        · exact .inr z
        · exact .inr ⟨i, z.1⟩
    refine ⟨setO Os1 i fun p => Os1 i p ∧ ¬ Oy p, Oy, ?_, fun p z q => e1.out i p (q3 p z).1 q, ?_, q4.shrink sub⟩
    · exact e1.change2 (fun _ z => z) hw kp (fun p z => .inl z.1) (fun p z => .inl (q3 p z).1) (fun p z q => z.2 q) (fun p z => lv p z.1) (fun p z => lv p (q3 p z).1) (fun _ _ => .inr trivial) (q5.shrink sub)
    · refine ⟨fun p o q m => kp p o (po1.keep p o q m) fun z => ?_, fun p z => ?_⟩
      · rcases po1.sub p (.inl ⟨i, z⟩) with r | r
        · exact m r
        · rw [q] at r; cases r
      · rcases z with z | z
        · rcases setO_eos z with z | z
          · exact po1.sub p (.inl z)
          · exact po1.sub p (.inl ⟨i, z.1⟩)
        · exact po1.sub p (.inl ⟨i, (q3 p z).1⟩)
theorem tE_pop0 {i : Nat} (h : tE G (.pop0 i) σ H Q) : tBM0 G.K "list" rPop (tVar i) σ H Q := by
  obtain ⟨W0, Os, env, e, rn⟩ := h
  have rn' : Run G W0 Os H (getE env i >>= fun w => match popEnd w with | some (d, w') => R.ok (d, env.set i (some w')) | none => .bad) fun p => ∀ v H', Res G W0 Os H σ p.2 p.1 v H' → Q v H' := rn
  obtain ⟨w, hw, d00, g00, rn3⟩ := Run.slot e rn'
  cases hp : popEnd d00 with
  | none => rw [hp] at rn3; exact rn3.elim
  | some p =>
    rw [hp] at rn3
    unfold popEnd at hp
    split at hp
    · rename_i xs
      cases hx : xs[xs.length - 1]? with
      | none => rw [hx] at hp; cases hp
      | some y =>
        rw [hx] at hp; cases hp
        obtain ⟨a, us, u, rfl, ha, hl, hu, res⟩ := pop_res hw e (Post.refl) (getE_ok g00) hx
        refine ⟨_, hw, tyL ha, a, us, u, rfl, rfl, ha, by rw [hl]; exact hu, ?_⟩
        have := Run.okE (G := G) (W0 := W0) (Os := Os) (H := H) rn3 u _ res
        rw [← hl, erase_last] at this
        exact this
    · cases hp
theorem popAt_ok {w : D} {ds : List D} {p : D × D} (h : popAt w ds = some p) : ∃ xs k j y, w = .lst true xs ∧ ds = [.int k] ∧ (-(2 ^ 63) ≤ k ∧ k < 2 ^ 63) ∧ ixN xs.length k = some j ∧ xs[j]? = some y ∧ p = (y, .lst true (xs.eraseIdx j)) := by
  unfold popAt at h
  split at h
  · rename_i xs k
    split at h
    · rename_i hk
      simp only [Bool.and_eq_true, decide_eq_true_eq] at hk
      cases hn : ixN xs.length k with
      | none => rw [hn] at h; cases h
      | some j =>
        rw [hn] at h
        have h : xs[j]?.map (fun d => (d, D.lst true (xs.eraseIdx j))) = some p := h
        cases hx : xs[j]? with
        | none => rw [hx] at h; cases h
        | some y => rw [hx] at h; cases h; exact ⟨xs, k, j, y, rfl, rfl, hk, hn, hx, rfl⟩
    · cases h
  · cases h
theorem tE_pop {i : Nat} {es : E} (h : tE G (.pop i es) σ H Q) : tBM G.K "list" rPopAt (tVar i) (tA G es) σ H Q := by
  obtain ⟨W0, Os, env, e, rn⟩ := h
  have rn' : Run G W0 Os H (getE env i >>= fun d0 => if isListD d0 = true then (evA G.C es env >>= fun p => getE p.2 i >>= fun w => match popAt w p.1 with | some (d, w') => R.ok (d, p.2.set i (some w')) | none => .bad) else .bad) fun p => ∀ v H', Res G W0 Os H σ p.2 p.1 v H' → Q v H' := rn
  obtain ⟨w, hw, d00, g00, rn1⟩ := Run.slot e rn'
  obtain ⟨hc, rn2⟩ := rn1.guard
  obtain ⟨w', hw', t0⟩ := e.tr i d00 (getE_ok g00)
  rw [hw] at hw'; cases hw'
  have ty : tyV G.K "list" w H := by
    cases d00 <;> first | (simp [isListD] at hc; done) | skip
    obtain ⟨a, xs, rfl, ha, _⟩ := t0.lstV
    exact tyL ha
  refine ⟨w, hw, ty, W0, Os, env, e, rn2.bind.mono fun p _ q vs H1 ⟨Os1, O1, e1, dj1, po1, hl, ht⟩ => ?_⟩
  obtain ⟨ds, env1⟩ := p
  have q3 := Run.bind q
  cases g : getE env1 i with
  | exc c fs => unfold getE at g; split at g <;> cases g
  | bad => rw [g] at q3; exact q3.elim
  | ok w2 =>
    rw [g] at q3
    have q3 : Run G W0 Os H (match popAt w2 ds with | some (d, w') => R.ok (d, env1.set i (some w')) | none => .bad) fun p => ∀ v H', Res G W0 Os H σ p.2 p.1 v H' → Q v H' := q3
    cases hp : popAt w2 ds with
    | none => rw [hp] at q3; exact q3.elim
    | some p =>
      rw [hp] at q3
      obtain ⟨xs, k, j, y, h1, h2, hk, hn, hx, h3⟩ := popAt_ok hp
      subst h1; subst h2; subst h3
      have po' : Post H Os H1 Os1 (fun _ => False) := ⟨po1.keep, fun a z => po1.sub a (z.imp id fun z => z.elim)⟩
      obtain ⟨a, us, u, rfl, ha, hl2, hu, res⟩ := pop_res hw (e1.shrink fun a z => .inl z) po' (getE_ok g) hx
      have hv : vs = [.int k] := by
        have hl : vs.length = 1 := hl
        match vs, hl with
        | [v], _ =>
          obtain ⟨Ok, t, _⟩ := ht 0 (.int k) v rfl rfl
          rw [t.intV]
      refine ⟨a, us, k, j, u, rfl, hv, ha, hk.1, hk.2, ?_, hu, Run.okE (G := G) (W0 := W0) (Os := Os) (H := H) q3 u _ res⟩
      rw [hl2]; exact (ixN_seq hn).1
theorem tS_appX {i j : Nat} (h : tS G (.appX i A j) Dn σ H) : tDrop (tBM G.K "list" rAppend (tOp (rIxA G.K) (tVar i) (tE G A)) (tCons (tVar j) tNil)) Dn σ H := by
  obtain ⟨W0, Os, env, e, rn⟩ := h
  have rn' : Run G W0 Os H (getE env i >>= fun _ => evE G.C A env >>= fun p => getE p.2 i >>= fun w => getE p.2 j >>= fun y => match p.1 with
    | .int k => (match appAt y k w with | some d' => R.ok (Out.nx (p.2.set i (some d'))) | none => R.bad)
    | _ => R.bad) (OutP G W0 Os H σ Dn) := rn
  obtain ⟨w, hw, d00, g00, rn1⟩ := Run.slot e rn'
  refine ⟨w, hw, W0, Os, env, e, rn1.bind.mono fun p _ q kv H1 ⟨Os1, O1, e1, dj1, po1, t1⟩ => ?_⟩
  obtain ⟨kd, env1⟩ := p
  have t1 : Tr G.K H1 (EW (orP W0 O1) Os1) kd kv O1 := t1
  have q3 := Run.bind q
  cases g : getE env1 i with
  | exc c fs => unfold getE at g; split at g <;> cases g
  | bad => rw [g] at q3; exact q3.elim
  | ok w2 =>
    rw [g] at q3
    have q4 := Run.bind (show Run G W0 Os H (getE env1 j >>= fun y => match kd with
      | .int k => (match appAt y k w2 with | some d' => R.ok (Out.nx (env1.set i (some d'))) | none => R.bad)
      | _ => R.bad) (OutP G W0 Os H σ Dn) from q3)
    cases g2 : getE env1 j with
    | exc c fs => unfold getE at g2; split at g2 <;> cases g2
    | bad => rw [g2] at q4; exact q4.elim
    | ok y =>
      rw [g2] at q4
      have q5 : Run G W0 Os H (match kd with
        | .int k => (match appAt y k w2 with | some d' => R.ok (Out.nx (env1.set i (some d'))) | none => R.bad)
        | _ => R.bad) (OutP G W0 Os H σ Dn) := q4
      cases kd with
      | int k =>
        have hk := t1.intV
        subst hk
        have q6 : Run G W0 Os H (match appAt y k w2 with | some d' => R.ok (Out.nx (env1.set i (some d'))) | none => R.bad) (OutP G W0 Os H σ Dn) := q5
        clear q5 q4 q3
        cases ha : appAt y k w2 with
        | none => rw [ha] at q6; exact q6.elim
        | some d' =>
          rw [ha] at q6
          unfold appAt at ha
          split at ha
          · rename_i xs
            split at ha
            · rename_i hf
              cases hn : ixN xs.length k with
              | none => rw [hn] at ha; cases ha
              | some n =>
                rw [hn] at ha
                have ha : appP y (.lst true xs) [n] = some d' := ha
                obtain ⟨yv, hyv, ty⟩ := e1.tr j y (getE_ok g2)
                obtain ⟨w', hw', t3⟩ := e1.tr i _ (getE_ok g)
                rw [hw] at hw'; cases hw'
                have fy : ∀ {Ww : Pr}, Tr G.K H1 Ww y yv fun _ => False := fun {Ww} => by
                  have z := flat_tr (K := G.K) (H := H1) (W := Ww) (O := fun _ => False) hf
                  have : yv = toV y := by
                    cases y <;> first | (simp [flat] at hf; done) | (cases ty; rfl)
                  rw [this]; exact z
                obtain ⟨c, us, p1, p2, p3, p4, p5⟩ := appP_ok ha t3 fy (fun _ _ z => z) fun p z => .inr ⟨i, z⟩
                obtain ⟨a, zs, x, rfl, hza, hzx, hxc⟩ := p1
                have hxc : x = .ref c := hxc
                subst hxc
                have hlz : zs.length = xs.length := by
                  cases t3 with
                  | lstO h1 h2 h3 h4 h5 h6 => rw [hza] at h1; cases h1; exact h3
                have kp := keep_upd (o := .lst (us ++ [yv])) p2 p4
                refine .inl ⟨a, zs, k, .ref c, rfl, rfl, SqL.of hza, by unfold atI; rw [hlz, hn]; exact hzx, tyL p2, yv, hyv, c, us, yv, rfl, rfl, p2, by rw [← line_eq]; exact p3, ?_⟩
                have e1' : EnvOk G.K H1 (orP W0 fun _ => False) σ env1 Os1 := e1.shrink fun a z => z.elim .inl fun z => z.elim
                refine Run.okE (G := G) (W0 := W0) (Os := Os) (H := H) q6 σ _ ⟨Fix.refl _ _, _, e1'.put (Op := fun _ => False) (fun _ z => z.elim) hw kp live_upd (p5.shrink fun p z => ?_), post_put (Op := fun _ => False) ⟨po1.keep, fun a z => po1.sub a (z.imp id fun z => z.elim)⟩ kp⟩
                rcases z with z | z
                · exact .inl (.inl z)
                · rcases setO_eos z with z | z | z
                  · exact .inr z
                  · exact .inr ⟨i, z⟩
                  · exact z.elim
            · cases ha
          · cases ha
      | _ => exact q5.elim
end
end KS
set_option linter.all false
set_option autoImplicit false
set_option maxRecDepth 100000
namespace KS
open PySem PySem.Spec PyProof.Rows L2
/-! ### dicts, by the evaluator -/
section
variable {G : Sg} {K : PySem.W.Frag} {W W' W0 W1 O O' O1 : Pr} {Os Os1 Os2 Os' : Nat → Pr} {H H1 H2 H' : Hp} {σ σ' σ1 σ2 : L2.St} {env env1 env2 env' : Env} {d : D} {v x : V} {Q : VK} {Dn : Ends} {A B : E}
theorem keyOf_tr {d : D} {k : Key} (h : keyOf d = some k) (t : Tr K H W d v O) : v = kV k := by
  cases d <;> first | (cases h; done) | skip
  · cases h; cases t; rfl
  · cases h; cases t; rfl
theorem keyD_tr (k : Key) : Tr K H W (keyD k) (kV k) O := by
  cases k with
  | inl i => exact .int
  | inr s => exact .str
theorem keysOf_tr : ∀ {ds : List D} {ks : List Key} {xs : List V} {Oa : Nat → Pr}, keysOf ds = some ks → xs.length = ds.length → (∀ (i : Nat) (x : V) (d : D), xs[i]? = some x → ds[i]? = some d → Tr K H W d x (Oa i)) → xs = ks.map kV
  | [], ks, xs, Oa, h, hl, _ => by
    cases h
    exact List.length_eq_zero_iff.mp hl
  | d :: ds, ks, [], Oa, h, hl, _ => by simp at hl
  | d :: ds, ks, x :: xs, Oa, h, hl, ht => by
    have h : ((keyOf d).bind fun k => (keysOf ds).map (k :: ·)) = some ks := h
    cases e1 : keyOf d with
    | none => rw [e1] at h; cases h
    | some k =>
      rw [e1] at h
      have h : (keysOf ds).map (k :: ·) = some ks := h
      cases e2 : keysOf ds with
      | none => rw [e2] at h; cases h
      | some ks2 =>
        rw [e2] at h; cases h
        have g1 : x = kV k := keyOf_tr e1 (ht 0 x d rfl rfl)
        have g2 : xs = ks2.map kV := keysOf_tr (Oa := fun i => Oa (i + 1)) e2 (by simpa using hl) fun i x d h1 h2 => ht (i + 1) x d (by simpa using h1) (by simpa using h2)
        rw [g1, g2]
        rfl
/-- two lists of pairs with the same keys -/
theorem find_par {κ : Type} [DecidableEq κ] {R : V → D → Prop} (k : κ) : ∀ {xs : List (κ × V)} {ds : List (κ × D)}, xs.length = ds.length → (∀ (i : Nat) (x : κ × V) (d : κ × D), xs[i]? = some x → ds[i]? = some d → x.1 = d.1) → (∀ (i : Nat) (x : κ × V) (d : κ × D), xs[i]? = some x → ds[i]? = some d → R x.2 d.2) →
    (dget ds k = none ∧ valV xs k = none) ∨ ∃ d v, dget ds k = some d ∧ valV xs k = some v ∧ R v d
  | [], [], _, _, _ => .inl ⟨rfl, rfl⟩
  | [], _ :: _, h, _, _ => by simp at h
  | _ :: _, [], h, _, _ => by simp at h
  | x :: xs, d :: ds, hl, hk, hr => by
    have k0 := hk 0 x d rfl rfl
    have r0 := hr 0 x d rfl rfl
    have ih := find_par k (xs := xs) (ds := ds) (by simpa using hl) (fun i a b h1 h2 => hk (i + 1) a b (by simpa using h1) (by simpa using h2)) fun i a b h1 h2 => hr (i + 1) a b (by simpa using h1) (by simpa using h2)
    unfold dget valV at ih ⊢
    rw [List.find?_cons, List.find?_cons]
    by_cases e : d.1 = k
    · right
      rw [decide_eq_true e, decide_eq_true (k0.trans e)]
      exact ⟨d.2, x.2, rfl, rfl, r0⟩
    · rw [decide_eq_false e, decide_eq_false (fun z => e (k0.symm.trans z))]
      exact ih
/-- what a dict's tree tells of a look -/
theorem look_ok {w kd : D} {o : Option D} {y : V} {Oy : Pr} (h : dlook w kd = some o) (t : Tr K H W w v O) (ty : Tr K H W kd y Oy) : ∃ a ov, v = .ref a ∧ DGet H a y ov ∧ ((o = none ∧ ov = none) ∨ ∃ d u, o = some d ∧ ov = some u ∧ Tr K H W d u fun _ => False) := by
  cases t with
  | dctS a c e f =>
    rename_i p xs ds
    obtain ⟨k, hk, rfl⟩ := Option.map_eq_some_iff.mp (show (keyOf kd).map (fun k => dget ds k) = some o from h)
    obtain rfl := keyOf_tr hk ty
    refine ⟨p, valV xs k, rfl, .inl ⟨xs, k, a.1, rfl, rfl⟩, ?_⟩
    rcases find_par (R := fun u d => Tr K H W d u fun _ => False) k c e f with ⟨h1, h2⟩ | ⟨d, u, h1, h2, h3⟩
    · exact .inl ⟨h1, h2⟩
    · exact .inr ⟨d, u, h1, h2, h3⟩
  | dctO a b c e f =>
    rename_i p xs ds
    obtain ⟨k, hk, rfl⟩ := Option.map_eq_some_iff.mp (show (keyOf kd).map (fun k => dget ds k) = some o from h)
    obtain rfl := keyOf_tr hk ty
    refine ⟨p, valV xs k, rfl, .inl ⟨xs, k, .inl a, rfl, rfl⟩, ?_⟩
    rcases find_par (R := fun u d => Tr K H W d u fun _ => False) k c e f with ⟨h1, h2⟩ | ⟨d, u, h1, h2, h3⟩
    · exact .inl ⟨h1, h2⟩
    · exact .inr ⟨d, u, h1, h2, h3⟩
  | dcuS a c e f =>
    rename_i p xs ds
    cases ty with
    | tup ta tc te tf tg =>
      rename_i b us kds Ou
      obtain ⟨k, hk, rfl⟩ := Option.map_eq_some_iff.mp (show (keysOf kds).map (fun k => dget ds k) = some o from h)
      have hus := keysOf_tr hk tc te
      subst hus
      refine ⟨p, valV xs k, rfl, .inr ⟨xs, k, b, a.1, rfl, ta, rfl⟩, ?_⟩
      rcases find_par (R := fun u d => Tr K H W d u fun _ => False) k c e f with ⟨h1, h2⟩ | ⟨d, u, h1, h2, h3⟩
      · exact .inl ⟨h1, h2⟩
      · exact .inr ⟨d, u, h1, h2, h3⟩
    | _ => cases h
  | dcuO a b c e f =>
    rename_i p xs ds
    cases ty with
    | tup ta tc te tf tg =>
      rename_i b us kds Ou
      obtain ⟨k, hk, rfl⟩ := Option.map_eq_some_iff.mp (show (keysOf kds).map (fun k => dget ds k) = some o from h)
      have hus := keysOf_tr hk tc te
      subst hus
      refine ⟨p, valV xs k, rfl, .inr ⟨xs, k, b, .inl a, rfl, ta, rfl⟩, ?_⟩
      rcases find_par (R := fun u d => Tr K H W d u fun _ => False) k c e f with ⟨h1, h2⟩ | ⟨d, u, h1, h2, h3⟩
      · exact .inl ⟨h1, h2⟩
      · exact .inr ⟨d, u, h1, h2, h3⟩
    | _ => cases h
  | _ => cases h
theorem tE_dget {i : Nat} (h : tE G (.dget i A) σ H Q) : tDGet (tVar i) (tE G A) σ H Q := by
  obtain ⟨W0, Os, env, e, rn⟩ := h
  have rn' : Run G W0 Os H (getE env i >>= fun _ => evE G.C A env >>= fun p => getE p.2 i >>= fun w => match dlook w p.1 with | some (some d) => R.ok (d, p.2) | _ => R.bad) _ := rn
  obtain ⟨x, hx, _, _, rn2⟩ := Run.slot e rn'
  refine ⟨x, hx, W0, Os, env, e, rn2.bind.mono fun p _ q y H1 ⟨Os1, O1, e1, dj1, po1, t1⟩ => ?_⟩
  obtain ⟨kd, env1⟩ := p
  have q1 := q.bind
  cases g : getE env1 i with
  | exc c fs => unfold getE at g; split at g <;> cases g
  | bad => rw [g] at q1; exact q1.elim
  | ok w =>
    rw [g] at q1
    obtain ⟨x', hx', tw⟩ := e1.tr i w (getE_ok g)
    rw [hx] at hx'; cases hx'
    have q2 : Run G W0 Os H (match dlook w kd with | some (some d) => R.ok (d, env1) | _ => R.bad) _ := q1
    cases hl : dlook w kd with
    | none => rw [hl] at q2; exact q2.elim
    | some o =>
      obtain ⟨a, ov, rfl, hg, hv⟩ := look_ok hl tw t1
      rcases hv with ⟨rfl, _⟩ | ⟨d, u, rfl, rfl, tu⟩
      · rw [hl] at q2; exact q2.elim
      · rw [hl] at q2
        refine ⟨a, u, rfl, hg, Run.okE (G := G) (W0 := W0) (Os := Os) (H := H) q2 u H1 ⟨Os1, fun _ => False, e1.shrink fun a z => z.elim .inl fun z => z.elim, fun _ z => z.elim, ⟨po1.keep, fun a z => po1.sub a (z.imp id fun z => z.elim)⟩, tu.shrink fun a z => ?_⟩⟩
        rcases z with (z | z) | z
        · exact .inl (.inl z)
        · exact z.elim
        · exact .inr z
theorem tE_din {i : Nat} {neg : Bool} (h : tE G (.din neg A i) σ H Q) : (tE G A) σ H fun y H1 => tVar i σ H1 fun x H2 => ∃ a o, x = .ref a ∧ DGet H2 a y o ∧ Q (.bl (if neg = true then !o.isSome else o.isSome)) H2 := by
  obtain ⟨W0, Os, env, e, rn⟩ := h
  have rn' : Run G W0 Os H (evE G.C A env >>= fun p => getE p.2 i >>= fun w => match dlook w p.1 with | some o => R.ok (D.bl (if neg = true then !o.isSome else o.isSome), p.2) | none => R.bad) _ := rn
  refine ⟨W0, Os, env, e, rn'.bind.mono fun p _ q y H1 ⟨Os1, O1, e1, dj1, po1, t1⟩ => ?_⟩
  obtain ⟨kd, env1⟩ := p
  have q1 := q.bind
  cases g : getE env1 i with
  | exc c fs => unfold getE at g; split at g <;> cases g
  | bad => rw [g] at q1; exact q1.elim
  | ok w =>
    rw [g] at q1
    obtain ⟨x, hx, tw⟩ := e1.tr i w (getE_ok g)
    have q2 : Run G W0 Os H (match dlook w kd with | some o => R.ok (D.bl (if neg = true then !o.isSome else o.isSome), env1) | none => R.bad) _ := q1
    cases hl : dlook w kd with
    | none => rw [hl] at q2; exact q2.elim
    | some o =>
      obtain ⟨a, ov, rfl, hg, hv⟩ := look_ok hl tw t1
      rw [hl] at q2
      have hs : o.isSome = ov.isSome := by
        rcases hv with ⟨rfl, rfl⟩ | ⟨d, u, rfl, rfl, _⟩ <;> rfl
      refine ⟨_, hx, a, ov, rfl, hg, ?_⟩
      rw [← hs]
      refine Run.okE (G := G) (W0 := W0) (Os := Os) (H := H) q2 _ H1 ⟨Os1, fun _ => False, e1.shrink fun a z => z.elim .inl fun z => z.elim, fun _ z => z.elim, ⟨po1.keep, fun a z => po1.sub a (z.imp id fun z => z.elim)⟩, .bl⟩
/-! ### a key more -/
theorem par_keys {κ : Type} : ∀ {xs : List (κ × V)} {ds : List (κ × D)}, xs.length = ds.length → (∀ (i : Nat) (x : κ × V) (d : κ × D), xs[i]? = some x → ds[i]? = some d → x.1 = d.1) → xs.map (·.1) = ds.map (·.1)
  | [], [], _, _ => rfl
  | [], _ :: _, h, _ => by simp at h
  | _ :: _, [], h, _ => by simp at h
  | x :: xs, d :: ds, hl, hk => by
    rw [List.map_cons, List.map_cons, hk 0 x d rfl rfl, par_keys (by simpa using hl) fun i a b h1 h2 => hk (i + 1) a b (by simpa using h1) (by simpa using h2)]
theorem any_keys {κ α : Type} [DecidableEq κ] (k : κ) (l : List (κ × α)) : (l.any fun kv => decide (kv.1 = k)) = (l.map (·.1)).any fun q => decide (q = k) := by
  rw [List.any_map]; rfl
theorem put_par {κ : Type} [DecidableEq κ] {R : V → D → Prop} {k : κ} {v : V} {d : D} {xs : List (κ × V)} {ds : List (κ × D)} (hl : xs.length = ds.length) (hk : ∀ (i : Nat) (x : κ × V) (d : κ × D), xs[i]? = some x → ds[i]? = some d → x.1 = d.1) (hr : ∀ (i : Nat) (x : κ × V) (d : κ × D), xs[i]? = some x → ds[i]? = some d → R x.2 d.2) (h : R v d) :
    (putK xs k v).length = (dputL ds k d).length ∧ (∀ (i : Nat) (x : κ × V) (e : κ × D), (putK xs k v)[i]? = some x → (dputL ds k d)[i]? = some e → x.1 = e.1) ∧ ∀ (i : Nat) (x : κ × V) (e : κ × D), (putK xs k v)[i]? = some x → (dputL ds k d)[i]? = some e → R x.2 e.2 := by
  have ea : (xs.any fun kv => decide (kv.1 = k)) = (ds.any fun kv => decide (kv.1 = k)) := by rw [any_keys, any_keys, par_keys hl hk]
  unfold putK dputL
  rw [ea]
  by_cases c : (ds.any fun kv => decide (kv.1 = k)) = true
  · rw [if_pos c, if_pos c]
    refine ⟨by simp [hl], fun i x e h1 h2 => ?_, fun i x e h1 h2 => ?_⟩
    · obtain ⟨x0, g1, rfl⟩ := getF h1
      obtain ⟨e0, g2, rfl⟩ := getF h2
      have := hk i x0 e0 g1 g2
      by_cases z : x0.1 = k
      · rw [if_pos z, if_pos (this.symm.trans z)]; exact this
      · rw [if_neg z, if_neg (fun y => z (this.trans y))]; exact this
    · obtain ⟨x0, g1, rfl⟩ := getF h1
      obtain ⟨e0, g2, rfl⟩ := getF h2
      have := hk i x0 e0 g1 g2
      by_cases z : x0.1 = k
      · rw [if_pos z, if_pos (this.symm.trans z)]; exact h
      · rw [if_neg z, if_neg (fun y => z (this.trans y))]; exact hr i x0 e0 g1 g2
  · rw [if_neg c, if_neg c]
    have two : ∀ (i : Nat) (x : κ × V) (e : κ × D), (xs ++ [(k, v)])[i]? = some x → (ds ++ [(k, d)])[i]? = some e → (xs[i]? = some x ∧ ds[i]? = some e) ∨ (x = (k, v) ∧ e = (k, d)) := fun i x e h1 h2 => by
      by_cases hi : i < xs.length
      · rw [List.getElem?_append_left hi] at h1
        rw [List.getElem?_append_left (by omega)] at h2
        exact .inl ⟨h1, h2⟩
      · rw [List.getElem?_append_right (by omega)] at h1
        rw [List.getElem?_append_right (by omega)] at h2
        have : i - xs.length = 0 := by
          have := (List.getElem?_eq_some_iff.mp h1).1
          simp at this; omega
        rw [this] at h1
        rw [show i - ds.length = 0 by omega] at h2
        cases h1; cases h2
        exact .inr ⟨rfl, rfl⟩
    refine ⟨by simp [hl], fun i x e h1 h2 => ?_, fun i x e h1 h2 => ?_⟩
    · rcases two i x e h1 h2 with ⟨g1, g2⟩ | ⟨rfl, rfl⟩
      · exact hk i x e g1 g2
      · rfl
    · rcases two i x e h1 h2 with ⟨g1, g2⟩ | ⟨rfl, rfl⟩
      · exact hr i x e g1 g2
      · exact h
theorem keep_updD {a : Addr} {u o : HO} (ha : H a = some u) (hu : ¬ isTF u) (hM : W a) : Keep H (L2.upd H a o) W := fun p q e m => by
  by_cases hp : p = a
  · subst hp; rw [ha] at e; cases e; exact (hu (m hM)).elim
  · rw [upd_ne hp]; exact e
theorem setO_self (Os : Nat → Pr) (i : Nat) : setO Os i (Os i) = Os := by
  funext j
  by_cases h : j = i
  · subst h; rw [setO_same]
  · rw [setO_ne h]
theorem liveU {a : Addr} {o : HO} : ∀ p, H p ≠ none → L2.upd H a o p ≠ none := fun p z => by
  by_cases hp : p = a
  · subst hp; rw [upd_same]; simp
  · rw [upd_ne hp]; exact z
/-- what stands when a dict at a is written: k the key's place in the new one -/
theorem dset_core {i : Nat} {a : Addr} {u o : HO} {w' : D} {H0 : Hp} {Os0 : Nat → Pr} (e : EnvOk K H (orP W0 O) σ env Os) (po : Post H0 Os0 H Os O) (hv : σ[i]? = some (some (.ref a))) (ha : H a = some u) (hu : ¬ isTF u) (hO : Os i a)
    (t : Tr K (L2.upd H a o) (EW W0 Os) w' (.ref a) (Os i)) : EnvOk K (L2.upd H a o) W0 σ (env.set i (some w')) Os ∧ Post H0 Os0 (L2.upd H a o) Os fun _ => False := by
  have e1 := e.shrink (W0 := W0) fun a z => .inl z
  have kp : Keep H (L2.upd H a o) (Os i) := keep_updD ha hu hO
  refine ⟨?_, fun p q h m => kp p q (po.keep p q h m) fun z => ?_, fun p z => po.sub p (z.imp id fun z => z.elim)⟩
  · have := e1.change (i := i) (O := Os i) (d := w') hv kp liveU (fun a z => .inl z) (fun a z => liveU a (e.lv i a z)) (by rw [setO_self]; exact t)
    rwa [setO_self] at this
  · rcases po.sub p (.inl ⟨i, z⟩) with r | r
    · exact m r
    · rw [h] at r; cases r
theorem tS_dset {i : Nat} (h : tS G (.dset i B A) Dn σ H) : tAsg (tE G A) (gSub (tVar i) (tE G B) rSetD) Dn σ H := by
  obtain ⟨W0, Os, env, e, rn⟩ := h
  have rn' : Run G W0 Os H (getE env i >>= fun _ => evE G.C A env >>= fun p => evE G.C B p.2 >>= fun q => getE q.2 i >>= fun w => match dput w q.1 p.1 with | some w' => R.ok (Out.nx (q.2.set i (some w'))) | none => R.bad) (OutP G W0 Os H σ Dn) := rn
  obtain ⟨w, hw, _, _, rn2⟩ := Run.slot e rn'
  refine ⟨W0, Os, env, e, rn2.bind.mono fun p _ q v H1 ⟨Os1, O1, e1, dj1, po1, t1⟩ => ?_⟩
  obtain ⟨d, env1⟩ := p
  refine ⟨w, hw, orP W0 O1, Os1, env1, e1, (Run.bind q).back po1 (fun a z => .inl z) fun p2 hev q2 y H2 ⟨Os2, O2, e2, dj2, po2, t2⟩ => ?_⟩
  obtain ⟨kd, env2⟩ := p2
  have q3 := Run.bind q2
  cases g : getE env2 i with
  | exc c fs => unfold getE at g; split at g <;> cases g
  | bad => rw [g] at q3; exact q3.elim
  | ok w2 =>
    rw [g] at q3
    obtain ⟨w', hw', t3⟩ := e2.tr i w2 (getE_ok g)
    rw [hw] at hw'; cases hw'
    have q4 : Run G W0 Os H (match dput w2 kd d with | some w' => R.ok (Out.nx (env2.set i (some w'))) | none => R.bad) (OutP G W0 Os H σ Dn) := q3
    cases hp : dput w2 kd d with
    | none => rw [hp] at q4; exact q4.elim
    | some w3 =>
      rw [hp] at q4
      have po02 : Post H Os H2 Os2 (orP O1 O2) := po1.trans po2 (fun a z => .inr z) fun a z => po1.sub a z
      have e3 : EnvOk G.K H2 (orP W0 (orP O1 O2)) σ env2 Os2 := e2.reassoc
      -- the value, no more owned, behind the change
      have frzV : ∀ {a : Addr} {u o : HO}, H2 a = some u → ¬ isTF u → Os2 i a → Tr G.K (L2.upd H2 a o) (EW W0 Os2) (frz d) v fun _ => False := fun {a u o} ha hu hO => by
        have tv : Tr G.K H2 (EW (orP (orP W0 O1) O2) Os2) d v O1 := t1.later po2 (fun a ⟨j, z⟩ q => e1.out j a z (.inr q)) fun a z => z.elim .inl .inr
        have tf : Tr G.K H2 (EW W0 Os2) (frz d) v fun _ => False := tv.frz fun p z => by
          rcases z with z | ⟨j, z⟩
          · exact ⟨.inl (.inl (.inl z)), fun r => dj1 p r z⟩
          · exact ⟨.inr ⟨j, z⟩, fun r => e2.out j p z (.inl (.inr r))⟩
        exact tf.keep (M := fun p => p = a) (keep_updD ha hu rfl) (fun p z => by subst z; exact .inr ⟨i, hO⟩) (fun _ _ z => z) fun _ z => .inl z
      have oldV : ∀ {a : Addr} {u o : HO} {x : V} {dd : D}, H2 a = some u → ¬ isTF u → Os2 i a → Tr G.K H2 (EW (orP (orP W0 O1) O2) Os2) dd x (fun _ => False) → Tr G.K (L2.upd H2 a o) (EW W0 Os2) dd x fun _ => False := fun {a u o x dd} ha hu hO t =>
        t.keep (M := fun p => p = a) (keep_updD ha hu rfl) (fun p z => by subst z; exact .inr ⟨i, hO⟩) (fun _ _ z => z) fun p z => .inl (z.imp (fun z => .inl (.inl z)) id)
      cases t3 with
      | dctO h1 h2 h3 h4 h5 =>
        rename_i a xs ds
        have hp : (if ds.length < line then (keyOf kd).map (fun k => D.dct true (dputL ds k (frz d))) else none) = some w3 := hp
        split at hp
        · rename_i hlt
          obtain ⟨k, hk, rfl⟩ := Option.map_eq_some_iff.mp hp
          obtain rfl := keyOf_tr hk t2
          have hl : xs.length < sizeLine := by rw [h3]; exact hlt
          refine ⟨a, _, rfl, DPut.k h1 hl, ?_⟩
          obtain ⟨p1, p2, p3⟩ := put_par (k := k) (v := v) (d := frz d) (R := fun u dd => Tr G.K (L2.upd H2 a (.dK (putK xs k v))) (EW W0 Os2) dd u fun _ => False) h3 h4 (fun i x dd g1 g2 => oldV h1 (fun z => z) h2 (h5 i x dd g1 g2)) (frzV h1 (fun z => z) h2)
          obtain ⟨e4, po4⟩ := dset_core e3 po02 hw h1 (fun z => z) h2 (.dctO (L2.upd_same) h2 p1 p2 p3)
          exact Run.okE (G := G) (W0 := W0) (Os := Os) (H := H) q4 σ _ ⟨Fix.refl _ _, _, e4, po4⟩
        · cases hp
      | dcuO h1 h2 h3 h4 h5 =>
        rename_i a xs ds
        cases t2 with
        | tup ta tc te tf tg =>
          have hp : (if ds.length < line then (keysOf _).map (fun k => D.dcu true (dputL ds k (frz d))) else none) = some w3 := hp
          split at hp
          · rename_i hlt
            obtain ⟨k, hk, rfl⟩ := Option.map_eq_some_iff.mp hp
            have hus := keysOf_tr hk tc te
            subst hus
            have hl : xs.length < sizeLine := by rw [h3]; exact hlt
            refine ⟨a, _, rfl, DPut.t h1 ta hl, ?_⟩
            obtain ⟨p1, p2, p3⟩ := put_par (k := k) (v := v) (d := frz d) (R := fun u dd => Tr G.K (L2.upd H2 a (.dT (putK xs k v))) (EW W0 Os2) dd u fun _ => False) h3 h4 (fun i x dd g1 g2 => oldV h1 (fun z => z) h2 (h5 i x dd g1 g2)) (frzV h1 (fun z => z) h2)
            obtain ⟨e4, po4⟩ := dset_core e3 po02 hw h1 (fun z => z) h2 (.dcuO (L2.upd_same) h2 p1 p2 p3)
            exact Run.okE (G := G) (W0 := W0) (Os := Os) (H := H) q4 σ _ ⟨Fix.refl _ _, _, e4, po4⟩
          · cases hp
        | _ => cases hp
      | _ => cases hp
theorem tE_dsp {k : Int} (h : tE G (.dsp k A) σ H Q) : ∀ p, H p = none → tE G A σ (L2.upd H p (.dK [])) fun y H2 => H2 p = some (.dK []) ∧ Q (.ref p) (L2.upd H2 p (.dK [(.inl k, y)])) := by
  intro p hp
  obtain ⟨W0, Os, env, e, rn⟩ := h
  have rn' : Run G W0 Os H (evE G.C A env >>= fun q => R.ok (D.dct true [(.inl k, frz q.1)], q.2)) _ := rn
  have sm : Same H (L2.upd H p (.dK [])) := same_upd hp
  have hO : ∀ a, a = p → H a = none ∧ L2.upd H p (.dK []) a ≠ none := fun a z => by subst z; exact ⟨hp, by rw [upd_same]; simp⟩
  have e1 := e.alloc (W0 := W0) (O := fun a => a = p) sm (fun _ z => z) hO
  have po1 : Post H Os (L2.upd H p (.dK [])) Os (fun a => a = p) := ⟨fun a o q _ => sm a o q, fun a z => z.imp id fun z => by subst z; exact hp⟩
  have hpe : ¬ EOs Os p := fun ⟨j, z⟩ => e.lv j p z hp
  refine ⟨orP W0 (fun a => a = p), Os, env, e1, (Run.bind rn').back po1 (fun a z => .inl z) fun r _ q y H2 ⟨Os2, O2, e2, dj2, po2, t2⟩ => ?_⟩
  obtain ⟨d, env2⟩ := r
  have hp2 : H2 p = some (.dK []) := po2.keep p _ upd_same fun z => (hpe z).elim
  refine ⟨hp2, ?_⟩
  have po02 : Post H Os H2 Os2 (orP (fun a => a = p) O2) := po1.trans po2 (fun a z => .inr z) fun a z => po1.sub a z
  have hp3 : ¬ EOs Os2 p := fun ⟨j, z⟩ => e2.out j p z (.inl (.inr rfl))
  have kp : Keep H2 (L2.upd H2 p (.dK [(.inl k, y)])) fun a => a = p := keep_updD hp2 (fun z => z) rfl
  refine Run.okE (G := G) (W0 := W0) (Os := Os) (H := H) q _ _ ⟨Os2, fun a => a = p, ?_, fun a z r => ?_, ⟨fun a o h m => ?_, fun a z => ?_⟩, ?_⟩
  · refine (e2.shrink (W0 := orP W0 fun a => a = p) fun a z => .inl z).pass (O := fun a => a = p) (M := fun a => a = p) (fun a z r => ?_) kp (fun _ z => z) (fun a z => .inl z) fun a z => by subst z; rw [upd_same]; simp
    subst z; exact e.lv0 a r hp
  · subst z; exact e.lv0 a r hp
  · have h2 := po02.keep a o h m
    by_cases ha : a = p
    · subst ha; rw [hp] at h; cases h
    · rw [upd_ne ha]; exact h2
  · exact po02.sub a (z.imp id fun z => .inl z)
  · refine .dctO upd_same rfl rfl (fun i x dd h1 h2 => ?_) fun i x dd h1 h2 => ?_
    · cases i with
      | zero => cases h1; cases h2; rfl
      | succ i => simp at h1
    · cases i with
      | zero =>
        cases h1; cases h2
        have tf : Tr G.K H2 (EW (orP W0 fun a => a = p) Os2) (frz d) y fun _ => False := t2.frz fun a z => by
          rcases z with z | ⟨j, z⟩
          · exact ⟨.inl (.inl z), fun r => dj2 a r z⟩
          · exact ⟨.inr ⟨j, z⟩, fun r => e2.out j a z (.inr r)⟩
        exact tf.keep (M := fun a => a = p) kp (fun a z => .inl (.inr z)) (fun _ _ z => z) fun a z => .inl z
      | succ i => simp at h1
/-! ### the keys of a dict, walked while it is locked -/
theorem Tr.lock {a : Addr} {u : HO} {od : Obj} (ha : H a = some u) (hu : (∃ kvs, u = .dK kvs) ∨ ∃ kvs, u = .dT kvs) (t : Tr K H W d v O) : ¬ O a → Tr K (L2.upd H a (.frz od u)) W d v O := by
  have ne : ∀ {p : Addr} {o : HO}, H p = some o → (∀ kvs, o ≠ .dK kvs) → (∀ kvs, o ≠ .dT kvs) → L2.upd H a (.frz od u) p = some o := fun {p o} h h1 h2 => by
    by_cases hp : p = a
    · subst hp
      rw [ha] at h; cases h
      rcases hu with ⟨kvs, r⟩ | ⟨kvs, r⟩
      · exact (h1 kvs r).elim
      · exact (h2 kvs r).elim
    · rw [upd_ne hp]; exact h
  have shd : ∀ {p : Addr} {o : HO}, ShD H W p o → ShD (L2.upd H a (.frz od u)) W p o := fun {p o} h => by
    refine ⟨?_, h.2⟩
    by_cases hp : p = a
    · subst hp
      rcases h.1 with r | ⟨o', r⟩
      · rw [ha] at r; cases r
        exact .inr ⟨od, upd_same⟩
      · rw [ha] at r; cases r
        rcases hu with ⟨kvs, r⟩ | ⟨kvs, r⟩ <;> cases r
    · rw [upd_ne hp]; exact h.1
  induction t with
  | non => intro _; exact .non
  | bl => intro _; exact .bl
  | int => intro _; exact .int
  | str => intro _; exact .str
  | scr h => intro _; exact .scr (h.elim (fun ⟨o, q⟩ => .inl ⟨o, ne q (fun _ z => by cases z) fun _ z => by cases z⟩) .inr)
  | lstS b c e ih => intro _; exact .lstS ⟨ne b.1 (fun _ z => by cases z) (fun _ z => by cases z), b.2⟩ c fun i x d h1 h2 => ih i x d h1 h2 fun z => z
  | lstO b c e f g h ih => intro n; exact .lstO (ne b (fun _ z => by cases z) fun _ z => by cases z) c e (fun i x d h1 h2 => ih i x d h1 h2 fun z => n (h i a z).1) g h
  | tup b c e f g ih => intro n; exact .tup (ne b (fun _ z => by cases z) fun _ z => by cases z) c (fun i x d h1 h2 => ih i x d h1 h2 fun z => n (g i a z)) f g
  | dctS b c e f ih => intro _; exact .dctS (shd b) c e fun i x d h1 h2 => ih i x d h1 h2 fun z => z
  | dctO b c e f g ih =>
    rename_i p _ _ _
    intro n
    have hp : p ≠ a := fun z => n (by rw [← z]; exact c)
    exact .dctO (by rw [upd_ne hp]; exact b) c e f fun i x d h1 h2 => ih i x d h1 h2 fun z => z
  | dcuS b c e f ih => intro _; exact .dcuS (shd b) c e fun i x d h1 h2 => ih i x d h1 h2 fun z => z
  | dcuO b c e f g ih =>
    rename_i p _ _ _
    intro n
    have hp : p ≠ a := fun z => n (by rw [← z]; exact c)
    exact .dcuO (by rw [upd_ne hp]; exact b) c e f fun i x d h1 h2 => ih i x d h1 h2 fun z => z
theorem Tr.unlock {a : Addr} {u : HO} {od : Obj} (ha : H a = some (.frz od u)) (hu : (∃ kvs, u = .dK kvs) ∨ ∃ kvs, u = .dT kvs) (t : Tr K H W d v O) : Tr K (L2.upd H a u) W d v O := by
  have ne : ∀ {p : Addr} {o : HO}, H p = some o → (∀ o' kvs, o ≠ .frz o' (.dK kvs)) → (∀ o' kvs, o ≠ .frz o' (.dT kvs)) → L2.upd H a u p = some o := fun {p o} h h1 h2 => by
    by_cases hp : p = a
    · subst hp
      rw [ha] at h; cases h
      rcases hu with ⟨kvs, r⟩ | ⟨kvs, r⟩
      · exact (h1 od kvs (by rw [r])).elim
      · exact (h2 od kvs (by rw [r])).elim
    · rw [upd_ne hp]; exact h
  have shd : ∀ {p : Addr} {o : HO}, ShD H W p o → (∀ o' u', o ≠ .frz o' u') → ShD (L2.upd H a u) W p o := fun {p o} h hn => by
    refine ⟨?_, h.2⟩
    by_cases hp : p = a
    · subst hp
      rcases h.1 with r | ⟨o', r⟩
      · rw [ha] at r; cases r
        exact (hn _ _ rfl).elim
      · rw [ha] at r; cases r
        exact .inl upd_same
    · rw [upd_ne hp]; exact h.1
  induction t with
  | non => exact .non
  | bl => exact .bl
  | int => exact .int
  | str => exact .str
  | scr h => exact .scr (h.elim (fun ⟨o, q⟩ => .inl ⟨o, ne q (fun _ _ z => by cases z) fun _ _ z => by cases z⟩) .inr)
  | lstS b c e ih => exact .lstS ⟨ne b.1 (fun _ _ z => by cases z) (fun _ _ z => by cases z), b.2⟩ c ih
  | lstO b c e f g h ih => exact .lstO (ne b (fun _ _ z => by cases z) fun _ _ z => by cases z) c e ih g h
  | tup b c e f g ih => exact .tup (ne b (fun _ _ z => by cases z) fun _ _ z => by cases z) c ih f g
  | dctS b c e f ih => exact .dctS (shd b fun _ _ z => by cases z) c e ih
  | dctO b c e f g ih => exact .dctO (ne b (fun _ _ z => by cases z) fun _ _ z => by cases z) c e f ih
  | dcuS b c e f ih => exact .dcuS (shd b fun _ _ z => by cases z) c e ih
  | dcuO b c e f g ih => exact .dcuO (ne b (fun _ _ z => by cases z) fun _ _ z => by cases z) c e f ih
/-- the keys -/
def KeysOf (u : HO) (xs : List D) : Prop := (∃ kvs : List (Key × V), u = .dK kvs ∧ xs = kvs.map fun kv => keyD kv.1) ∨ ∃ kvs : List (List Key × V), u = .dT kvs ∧ xs = kvs.map fun kv => .tup (kv.1.map keyD)
theorem KeysOf.isD {u : HO} {xs : List D} (h : KeysOf u xs) : (∃ kvs, u = .dK kvs) ∨ ∃ kvs, u = .dT kvs := h.imp (fun ⟨k, e, _⟩ => ⟨k, e⟩) fun ⟨k, e, _⟩ => ⟨k, e⟩
theorem map_keys {κ α β γ : Type} {f : κ → γ} {xs : List (κ × α)} {ds : List (κ × β)} (h : xs.map (·.1) = ds.map (·.1)) : (ds.map fun kv => f kv.1) = xs.map fun kv => f kv.1 := by
  have e1 : (ds.map fun kv => f kv.1) = (ds.map (·.1)).map f := by rw [List.map_map]; rfl
  have e2 : (xs.map fun kv => f kv.1) = (xs.map (·.1)).map f := by rw [List.map_map]; rfl
  rw [e1, e2, h]
theorem keys_view {w : D} {xs : List D} (t : Tr K H W w v O) (hk : dkeys w = some xs) : ∃ a u, v = .ref a ∧ (H a = some u ∨ ∃ o, H a = some (.frz o u)) ∧ KeysOf u xs ∧ (O a ∨ ¬ W a) := by
  cases t with
  | dctS a c e f => cases hk; exact ⟨_, _, rfl, a.1, .inl ⟨_, rfl, map_keys (par_keys c e)⟩, .inr a.2⟩
  | dctO a b c e f => cases hk; exact ⟨_, _, rfl, .inl a, .inl ⟨_, rfl, map_keys (par_keys c e)⟩, .inl b⟩
  | dcuS a c e f => cases hk; exact ⟨_, _, rfl, a.1, .inr ⟨_, rfl, map_keys (f := fun k => D.tup (k.map keyD)) (par_keys c e)⟩, .inr a.2⟩
  | dcuO a b c e f => cases hk; exact ⟨_, _, rfl, .inl a, .inr ⟨_, rfl, map_keys (f := fun k => D.tup (k.map keyD)) (par_keys c e)⟩, .inl b⟩
  | _ => cases hk
/-- the walk along them -/
theorem keys_walk {a : Addr} {u : HO} {od : Obj} {xs : List D} (h : KeysOf u xs) : (∃ kvs, u = .dK kvs ∧ Wk K (Itk a od kvs) xs fun _ _ H _ => H a = some (.frz od u)) ∨ ∃ kvs, u = .dT kvs ∧ Wk K (Itkt a od kvs) xs fun _ _ H _ => H a = some (.frz od u) := by
  rcases h with ⟨kvs, rfl, rfl⟩ | ⟨kvs, rfl, rfl⟩
  · refine .inl ⟨kvs, rfl, ⟨fun h k _ _ _ => k _ _ h fun _ => trivial, fun h hk => ⟨h, by simpa using hk⟩, fun h hk => ⟨h, by rw [hk]; simp⟩, fun {W k H H' R x d} h hx hy => ?_⟩⟩
    obtain ⟨rfl, key, val, hkv, rfl⟩ := hy
    rw [List.getElem?_map, hkv] at hx
    cases hx
    exact ⟨fun _ => False, R, fun _ _ q => q, keyD_tr key, h, fun _ z => z.elim, fun _ z => z, fun _ z => z.elim⟩
  · refine .inr ⟨kvs, rfl, ⟨fun h k _ _ _ => k _ _ h fun _ => trivial, fun h hk => ⟨h, by simpa using hk⟩, fun h hk => ⟨h, by rw [hk]; simp⟩, fun {W k H H' R x d} h hx hy => ?_⟩⟩
    obtain ⟨rfl, key, val, q, hkv, rfl, hq⟩ := hy
    rw [List.getElem?_map, hkv] at hx
    cases hx
    refine ⟨fun _ => False, R, fun _ _ q => q, .tup (Os := fun _ _ => False) hq (by simp) (fun i x d h1 h2 => ?_) (fun _ _ _ _ z => z.elim) fun _ _ z => z.elim, h, fun _ z => z.elim, fun _ z => z, fun _ z => z.elim⟩
    obtain ⟨k1, g1, rfl⟩ := getF h1
    obtain ⟨k2, g2, rfl⟩ := getF h2
    rw [g1] at g2; cases g2
    exact keyD_tr k1
theorem tE_compK {elt c : E} {ts : List Nat} {i : Nat} (h : tE G (.compK elt ts i c) σ H Q) : tLc (iKeys (tVar i)) (tgR G.K ts) (tT G.nox c) (tE G.nox elt) ts σ H Q ∨ tLockE (tLc (iKeys (tVar i)) (tgR G.K ts) (tT G.nox c) (tE G.nox elt) ts) σ H Q := by
  obtain ⟨W0, Os, env, e, rn⟩ := h
  have rn' : Run G W0 Os H (getE env i >>= fun w => match dkeys w with | none => R.bad | some xs => (noX (compL (turnC G.C elt ts c) xs (frzAt env i) []) >>= fun q => if decide (xs.length ≤ line) = true then R.ok (D.lst true q.1, wipeE q.2 ts) else .bad)) _ := rn
  obtain ⟨x, hx, w, hg, rn2⟩ := Run.slot e rn'
  cases hk : dkeys w with
  | none => rw [hk] at rn2; exact rn2.elim
  | some xs =>
    rw [hk] at rn2
    have rn3 : Run G W0 Os H (noX (compL (turnC G.C elt ts c) xs (frzAt env i) []) >>= fun q => if decide (xs.length ≤ line) = true then R.ok (D.lst true q.1, wipeE q.2 ts) else .bad) fun p => ∀ v H', Res G W0 Os H σ p.2 p.1 v H' → Q v H' := rn2
    obtain ⟨x', hx', tw⟩ := e.tr i w (getE_ok hg)
    rw [hx] at hx'; cases hx'
    obtain ⟨a, u, rfl, hH, hK, hO⟩ := keys_view tw hk
    -- what the comprehension comes to
    cases gc : compL (turnC G.C elt ts c) xs (frzAt env i) [] with
    | bad => rw [gc] at rn3; exact rn3.elim
    | exc cc fs => rw [gc] at rn3; exact rn3.elim
    | ok p2 =>
      rw [gc] at rn3
      obtain ⟨hz, q2⟩ := Run.guard (G := G) (W0 := W0) (Os := Os) (H := H) rn3
      have q3 : ∀ v H', Res G W0 Os H σ (wipeE p2.2 ts) (.lst true p2.1) v H' → Q v H' := q2
      have val : (noX (compL (turnC G.C elt ts c) xs (frzAt env i) []) >>= fun q => if decide (xs.length ≤ line) = true then R.ok (D.lst true q.1, wipeE q.2 ts) else R.bad) = .ok (D.lst true p2.1, wipeE p2.2 ts) := by
        rw [gc]
        show (if decide (xs.length ≤ line) = true then _ else _) = _
        rw [if_pos hz]
      have e1 := e.frzAt i
      have os : ∀ p, EOs (setO Os i fun _ => False) p → EOs Os p := fun p ⟨j, z⟩ => by
        by_cases hj : j = i
        · subst hj; rw [setO_same] at z; exact z.elim
        · rw [setO_ne hj] at z; exact ⟨j, z⟩
      have na : ¬ EW W0 (setO Os i fun _ => False) a := fun z => by
        rcases hO with r | r
        · rcases z with z | ⟨j, z⟩
          · exact e.out i a r z
          · by_cases hj : j = i
            · subst hj; rw [setO_same] at z; exact z.elim
            · rw [setO_ne hj] at z; exact e.dj i j a (Ne.symm hj) r z
        · exact r (z.imp id (os a))
      rcases hH with hH | ⟨o, hH⟩
      · right
        have hmu : Mut (some u) := by rcases hK.isD with ⟨kvs, rfl⟩ | ⟨kvs, rfl⟩ <;> trivial
        refine ⟨a, u, hH, hmu, fun od => ?_⟩
        have eL : EnvOk G.K (L2.upd H a (.frz od u)) (orP W0 fun _ => False) σ (frzAt env i) (setO Os i fun _ => False) := by
          refine ⟨e1.len, fun j d q => ?_, e1.dj, fun j p z r => ?_, fun j p z => liveU p (e1.lv j p z), fun p z => liveU p (e1.lv0 p (z.elim id fun z => z.elim))⟩
          · obtain ⟨v, h1, h2⟩ := e1.tr j d q
            refine ⟨v, h1, (h2.lock hH hK.isD fun z => na (.inr ⟨j, z⟩)).shrink fun p z => ?_⟩
            rcases z with (z | z) | z
            · exact .inl z
            · exact z.elim
            · exact .inr z
          · exact e1.out j p z (r.elim id fun r => r.elim)
        suffices fin : ∀ J, Wk G.K J xs (fun _ _ H _ => H a = some (.frz od u)) → tLc (fun _ _ R => R J (L2.upd H a (.frz od u))) (tgR G.K ts) (tT G.nox c) (tE G.nox elt) ts σ (L2.upd H a (.frz od u)) fun v H' => H' a = some (.frz od u) ∧ Q v (L2.upd H' a u) by
          rcases keys_walk (K := G.K) (a := a) (od := od) hK with ⟨kvs, rfl, wk⟩ | ⟨kvs, rfl, wk⟩
          · exact ⟨.ref a, hx, a, od, rfl, .inl ⟨kvs, upd_same, fin _ wk⟩⟩
          · exact ⟨.ref a, hx, a, od, rfl, .inr ⟨kvs, upd_same, fin _ wk⟩⟩
        intro J wk
        refine comp_core (W0 := W0) (Os := setO Os i fun _ => False) (xs := xs) (env1 := frzAt env i) (Run.of_ok val fun v H' res => ?_) ⟨_, fun _ => False, _, eL, fun _ z => z.elim, ⟨fun _ _ q _ => q, fun p z => z.elim .inl fun z => z.elim⟩, wk, upd_same⟩
        obtain ⟨Os2, O2, e2, dj2, po2, t2⟩ := res
        have hH' : H' a = some (.frz od u) := po2.keep a _ upd_same fun _ => trivial
        refine ⟨hH', q3 v _ ⟨Os2, O2, ⟨e2.len, fun j d q => ?_, e2.dj, e2.out, fun j p z => liveU p (e2.lv j p z), fun p z => liveU p (e2.lv0 p z)⟩, dj2, ⟨fun p o h m => ?_, fun p z => ?_⟩, t2.unlock hH' hK.isD⟩⟩
        · obtain ⟨v, h1, h2⟩ := e2.tr j d q
          exact ⟨v, h1, h2.unlock hH' hK.isD⟩
        · by_cases hp : p = a
          · subst hp; rw [hH] at h; cases h; exact upd_same
          · rw [upd_ne hp]
            exact po2.keep p o (by rw [upd_ne hp]; exact h) fun z => m (os p z)
        · rcases po2.sub p z with r | r
          · exact .inl (os p r)
          · right
            by_cases hp : p = a
            · subst hp; rw [upd_same] at r; cases r
            · rwa [upd_ne hp] at r
      · left
        suffices fin : ∀ J, Wk G.K J xs (fun _ _ H _ => H a = some (.frz o u)) → tLc (fun _ _ R => R J H) (tgR G.K ts) (tT G.nox c) (tE G.nox elt) ts σ H Q by
          rcases keys_walk (K := G.K) (a := a) (od := o) hK with ⟨kvs, rfl, wk⟩ | ⟨kvs, rfl, wk⟩
          · exact ⟨.ref a, hx, a, o, rfl, .inl ⟨kvs, hH, fin _ wk⟩⟩
          · exact ⟨.ref a, hx, a, o, rfl, .inr ⟨kvs, hH, fin _ wk⟩⟩
        intro J wk
        refine comp_core (W0 := W0) (Os := setO Os i fun _ => False) (xs := xs) (env1 := frzAt env i) (Run.of_ok val fun v H' res => ?_) ⟨_, fun _ => False, _, e1.shrink fun p z => z.elim id fun z => z.elim, fun _ z => z.elim, ⟨fun _ _ q _ => q, fun p z => z.elim .inl fun z => z.elim⟩, wk, hH⟩
        obtain ⟨Os2, O2, e2, dj2, po2, t2⟩ := res
        exact q3 v H' ⟨Os2, O2, e2, dj2, ⟨fun p o h m => po2.keep p o h fun z => m (os p z), fun p z => (po2.sub p z).imp (os p) id⟩, t2⟩
end
end KS
set_option linter.all false
set_option autoImplicit false
set_option maxRecDepth 100000
namespace KS
open PySem PySem.Spec PyProof.Rows L2
section
variable {G : Sg} {K : PySem.W.Frag} {W W0 W1 O O1 : Pr} {Os Os1 Os2 Os' : Nat → Pr} {H H0 H1 H2 H' : Hp} {σ σ' σ1 σ2 : L2.St} {env env1 env2 env' : Env} {d : D} {v x : V} {Dn : Ends} {A B Cc : E} {Q : VK}
def turnF (C : Ctx) (ts : List Nat) (b : S) (x : D) (env : Env) : R Out := do let env ← setT C env ts x; evS C b env
def afterF (C : Ctx) (ts : List Nat) (b : S) (xs : List D) : Out → R Out
  | .nx env => forL (turnF C ts b) xs env
  | .ct env => forL (turnF C ts b) xs env
  | .brk env => .ok (.nx env)
  | .ret d env => .ok (.ret d env)
theorem forL_cons {C : Ctx} {ts : List Nat} {b : S} {x : D} {xs : List D} {env : Env} : forL (turnF C ts b) (x :: xs) env = (turnF C ts b x env >>= afterF C ts b xs) := by
  show (turnF C ts b x env >>= fun o => _) = _
  cases turnF C ts b x env with
  | ok o => cases o <;> rfl
  | exc c fs => rfl
  | bad => rfl
/-- between two turns of a for loop -/
structure ForI (G : Sg) (W0 : Pr) (Os : Nat → Pr) (H0 : Hp) (σ : L2.St) (ts : List Nat) (b : S) (xs : List D) (P : Pr → Nat → Hp → Pr → Prop) (Dn : Ends) (k : Nat) (σ' : L2.St) (H : Hp) : Prop where
  hk : k ≤ xs.length
  st : ∃ (Os1 : Nat → Pr) (Rz : Pr) (env : Env), EnvOk G.K H (orP W0 Rz) σ' env Os1 ∧ (∀ a, Rz a → ¬ W0 a) ∧ P (EW (orP W0 Rz) Os1) k H Rz ∧ Post H0 Os H Os1 Rz ∧ Fix G.C σ σ' ∧
    Run G W0 Os H0 (forL (turnF G.C ts b) (xs.drop k) env) (OutP G W0 Os H0 σ Dn)
theorem forI_turn {ts : List Nat} {b : S} {J : It} {xs : List D} {P : Pr → Nat → Hp → Pr → Prop} {k : Nat} (w : Wk G.K J xs P) (I : ForI G W0 Os H0 σ ts b xs P Dn k σ1 H) (hk : k < xs.length) {x : V} (hy : J.yld k H x H') :
    tgR G.K ts x σ1 H' fun σ2 H2 => tS G b { Dn with nx := ForI G W0 Os H0 σ ts b xs P Dn (k + 1), ct := ForI G W0 Os H0 σ ts b xs P Dn (k + 1), bk := Dn.nx } σ2 H2 := by
  obtain ⟨_, Os1, Rz, env, e, d2, hP, po, fx, rn⟩ := I
  have hd : xs[k]? = some xs[k] := List.getElem?_eq_getElem hk
  obtain ⟨O, R', sm, tx, hP', sO, sR, dO⟩ := w.yld hP hd hy
  rw [List.drop_eq_getElem_cons hk, forL_cons] at rn
  generalize xs[k] = xk at rn hd tx
  have rn' : Run G W0 Os H0 ((setT G.C env ts xk >>= fun env => evS G.C b env) >>= afterF G.C ts b (xs.drop (k + 1))) (OutP G W0 Os H0 σ Dn) := rn
  cases hset : setT G.C env ts xk with
  | bad => rw [hset] at rn'; exact rn'.elim
  | exc c fs => exact (setT_noexc hset).elim
  | ok env2 =>
    rw [hset] at rn'
    have rn' : Run G W0 Os H0 (evS G.C b env2 >>= afterF G.C ts b (xs.drop (k + 1))) (OutP G W0 Os H0 σ Dn) := rn'
    let Wb : Pr := orP W0 R'
    have e1 : EnvOk G.K H' (orP Wb O) σ1 env Os1 := (e.same sm).shrink fun a z => by
      rcases z with (z | z) | z
      · exact .inl z
      · exact .inr (sR a z)
      · exact .inr (sO a z)
    have dj1 : ∀ a, O a → ¬ Wb a := fun a z q => by
      rcases q with q | q
      · exact d2 a (sO a z) q
      · exact dO a z q
    have subW : ∀ a, EW (orP Wb O) Os1 a → EW (orP W0 Rz) Os1 a := fun a z => by
      rcases z with ((z | z) | z) | z
      · exact .inl (.inl z)
      · exact .inl (.inr (sR a z))
      · exact .inl (.inr (sO a z))
      · exact .inr z
    refine setT_ok hset e1 dj1 (tx.shrink subW) fun σ2 sd hz => ?_
    obtain ⟨Os2, e2, s2⟩ := sd.ok
    have fx2 : Fix G.C σ1 σ2 := fun f => sd.out 0 (hz f)
    have sub2 : ∀ a, EW Wb Os2 a → EW (orP W0 Rz) Os1 a := fun a z => by
      rcases z with z | z
      · exact subW a (.inl (.inl z))
      · rcases s2 a z with q | q
        · exact .inr q
        · exact .inl (.inr (sO a q))
    have hP2 : P (EW Wb Os2) (k + 1) H' R' := w.keep hP' (Keep.refl _ fun _ => False) (fun _ z => z.elim) (fun _ z => z.elim) fun a z => .inl (sub2 a z)
    have po2 : Post H0 Os H' Os2 R' := ⟨fun a o q m => sm _ _ (po.keep a o q m), fun a z => by
      rcases z with z | z
      · rcases s2 a z with q | q
        · exact po.sub a (.inl q)
        · exact po.sub a (.inr (sO a q))
      · exact po.sub a (.inr (sR a z))⟩
    refine ⟨Wb, Os2, env2, e2, (Run.bind rn').back po2 (fun a z => .inl z) fun o _ q => ?_⟩
    have nxt : ∀ {env3 : Env}, Run G W0 Os H0 (forL (turnF G.C ts b) (xs.drop (k + 1)) env3) (OutP G W0 Os H0 σ Dn) → ∀ σ3 H3, ResS G Wb Os2 H' σ2 σ3 env3 H3 → ForI G W0 Os H0 σ ts b xs P Dn (k + 1) σ3 H3 := by
      intro env3 q σ3 H3 ⟨f3, Os3, e3, po3⟩
      have hP3 := pend_step w e2 po3 hP2 fun a z => .inr z
      refine ⟨by omega, Os3, R', env3, e3, fun a z => d2 a (sR a z), ?_, po2.trans po3 (fun a z => .inr (.inl z)) fun a z => po2.sub a z, fx.trans (fx2.trans f3), q⟩
      exact w.keep hP3 (Keep.refl _ fun _ => False) (fun _ z => z.elim) (fun _ z => z.elim) fun a z => .inl (z.elim (fun z => .inl (.inl z)) .inr)
    cases o with
    | nx env3 => exact nxt q
    | ct env3 => exact nxt q
    | brk env3 =>
      have q1 := Run.okE (G := G) (W0 := W0) (Os := Os) (H := H0) (show Run G W0 Os H0 (.ok (Out.nx env3)) _ from q)
      intro σ3 H3 ⟨f3, Os3, e3, po3⟩
      refine q1 σ3 H3 ⟨fx.trans (fx2.trans f3), Os3, e3.shrink fun a z => .inl z, po2.trans po3 (fun a z => z.elim) fun a z => po2.sub a z⟩
    | ret d env3 =>
      have q1 := Run.okE (G := G) (W0 := W0) (Os := Os) (H := H0) (show Run G W0 Os H0 (.ok (Out.ret d env3)) _ from q)
      exact OutP.later (o := .ret d env3) q1 (fx.trans fx2) po2 (fun a z => .inl z) fun a z => z
theorem tS_for {es : E} {ts : List Nat} {k : IK} {b : S} (h : tS G (.for_ ts k es b) Dn σ H) : tFor (tI G k es) (tgR G.K ts) (tS G b) Dn σ H := by
  obtain ⟨W0, Os, env, e, rn⟩ := h
  have ev : evS G.C (.for_ ts k es b) env = (evI G.C k es env >>= fun p => forL (turnF G.C ts b) p.1 p.2) := by
    unfold evI
    show (evL G.C es env >>= fun p => items k p.1 >>= fun xs => _) = _
    cases evL G.C es env with
    | ok p =>
      show (items k p.1 >>= fun xs => _) = ((items k p.1 >>= fun xs => R.ok (xs, p.2)) >>= _)
      cases items k p.1 <;> rfl
    | exc c fs => rfl
    | bad => rfl
  rw [ev] at rn
  refine ⟨W0, Os, env, e, rn.bind.mono fun p _ q J H1 res => ?_⟩
  obtain ⟨xs, env1⟩ := p
  obtain ⟨Os1, O, P, e1, dj1, po1, w, hP⟩ := res
  refine ⟨fun i m σ' H' => m = xs.length - i ∧ ForI G W0 Os H σ ts b xs P Dn i σ' H', ⟨_, rfl, Nat.zero_le _, Os1, O, env1, e1, dj1, hP, po1, Fix.refl _ _, q⟩, fun i m σ' H' ⟨hm, I⟩ => ?_⟩
  subst hm
  by_cases hk : i < xs.length
  · refine .inr ⟨?_, ForI G W0 Os H σ ts b xs P Dn (i + 1), fun σ2 H2 I' => ⟨xs.length - (i + 1), by omega, rfl, I'⟩, fun x H2 hy => forI_turn w I hk hy⟩
    obtain ⟨_, Os3, Rz, env3, _, _, hP3, _⟩ := I
    exact w.go hP3 hk
  · have he : i = xs.length := by have := I.hk; omega
    subst he
    obtain ⟨_, Os3, Rz, env3, e3, d3, hP3, po3, fx, rn3⟩ := I
    refine .inl ⟨w.stop hP3 rfl, ?_⟩
    rw [List.drop_length] at rn3
    have q1 := Run.okE (G := G) (W0 := W0) (Os := Os) (H := H) (show Run G W0 Os H (.ok (Out.nx env3)) _ from rn3)
    exact q1 σ' H' ⟨fx, Os3, e3.shrink fun a z => .inl z, po3.keep, fun a z => po3.sub a (z.imp id fun z => z.elim)⟩
def afterW (C : Ctx) (c : E) (b : S) (n : Nat) : Out → R Out
  | .nx env => whileL (evE C c) (evS C b) n env
  | .ct env => whileL (evE C c) (evS C b) n env
  | .brk env => .ok (.nx env)
  | .ret d env => .ok (.ret d env)
theorem whileL_succ {C : Ctx} {c : E} {b : S} {n : Nat} {env : Env} : whileL (evE C c) (evS C b) (n + 1) env = (evE C c env >>= fun p => KS.truth p.1 >>= fun t => if t = true then evS C b p.2 >>= afterW C c b n else .ok (.nx p.2)) := by
  show (evE C c env >>= fun p => _) = _
  cases evE C c env with
  | ok p =>
    show (KS.truth p.1 >>= fun t => _) = (KS.truth p.1 >>= fun t => _)
    cases KS.truth p.1 with
    | ok t =>
      cases t with
      | true =>
        show (evS C b p.2 >>= fun o => _) = (evS C b p.2 >>= _)
        cases evS C b p.2 with
        | ok o => cases o <;> rfl
        | exc c fs => rfl
        | bad => rfl
      | false => rfl
    | exc c fs => rfl
    | bad => rfl
  | exc c fs => rfl
  | bad => rfl
def WhI (G : Sg) (W0 : Pr) (Os : Nat → Pr) (H0 : Hp) (σ : L2.St) (c : E) (b : S) (Dn : Ends) (n : Nat) (σ' : L2.St) (H : Hp) : Prop :=
  ∃ (Os1 : Nat → Pr) (env : Env), EnvOk G.K H W0 σ' env Os1 ∧ Post H0 Os H Os1 (fun _ => False) ∧ Fix G.C σ σ' ∧ Run G W0 Os H0 (whileL (evE G.C c) (evS G.C b) n env) (OutP G W0 Os H0 σ Dn)
theorem tS_whl {c : E} {b : S} (h : tS G (.whl c b) Dn σ H) : tWhile (tT G c) (tS G b) Dn σ H := by
  obtain ⟨W0, Os, env, e, rn⟩ := h
  refine ⟨fun m σ' H' => WhI G W0 Os H σ c b Dn m σ' H', ⟨_, Os, env, e, Post.refl, Fix.refl _ _, rn⟩, fun m σ1 H1 I => ?_⟩
  obtain ⟨Os1, env1, e1, po1, fx, rn1⟩ := I
  cases m with
  | zero => exact rn1.elim
  | succ n =>
    rw [whileL_succ] at rn1
    have r2 : Run G W0 Os1 H1 (evE G.C c env1) (fun p => Run G W0 Os H (KS.truth p.1 >>= fun t => if t = true then evS G.C b p.2 >>= afterW G.C c b n else .ok (.nx p.2)) (OutP G W0 Os H σ Dn)) :=
      (Run.bind rn1).back po1 (fun _ z => z) fun p _ q => q
    refine ⟨W0, Os1, env1, e1, r2.mono fun p _ q v H2 res => ?_⟩
    obtain ⟨t, ht, q2⟩ := Run.truth q
    obtain ⟨d1, env2⟩ := p
    have ht : d1 = .bl t := ht
    subst ht
    refine ⟨t, res.bl, ?_⟩
    obtain ⟨Os2, O2, e2, dj2, po2, _⟩ := res
    have e2' : EnvOk G.K H2 W0 σ1 env2 Os2 := e2.shrink fun a z => .inl z
    have po02 : Post H Os H2 Os2 (fun _ => False) := po1.trans po2 (fun _ z => z.elim) fun a z => po1.sub a z
    cases t with
    | false =>
      rw [if_neg Bool.false_ne_true]
      have q3 := Run.okE (G := G) (W0 := W0) (Os := Os) (H := H) (show Run G W0 Os H (.ok (Out.nx env2)) _ from q2)
      exact q3 σ1 H2 ⟨fx, Os2, e2', po02⟩
    | true =>
      rw [if_pos rfl]
      have q2 : Run G W0 Os H (evS G.C b env2 >>= afterW G.C c b n) (OutP G W0 Os H σ Dn) := q2
      refine ⟨WhI G W0 Os H σ c b Dn n, fun σ' H' I' => ⟨n, by omega, I'⟩, W0, Os2, env2, e2', (Run.bind q2).back po02 (fun _ z => z) fun o _ q => ?_⟩
      have nxt : ∀ {env3 : Env}, Run G W0 Os H (whileL (evE G.C c) (evS G.C b) n env3) (OutP G W0 Os H σ Dn) → ∀ σ3 H3, ResS G W0 Os2 H2 σ1 σ3 env3 H3 → WhI G W0 Os H σ c b Dn n σ3 H3 :=
        fun {env3} q σ3 H3 ⟨f3, Os3, e3, po3⟩ => ⟨Os3, env3, e3, po02.trans po3 (fun _ z => z.elim) fun a z => po02.sub a z, fx.trans f3, q⟩
      cases o with
      | nx env3 => exact nxt q
      | ct env3 => exact nxt q
      | brk env3 =>
        have q1 := Run.okE (G := G) (W0 := W0) (Os := Os) (H := H) (show Run G W0 Os H (.ok (Out.nx env3)) _ from q)
        intro σ3 H3 ⟨f3, Os3, e3, po3⟩
        exact q1 σ3 H3 ⟨fx.trans f3, Os3, e3, po02.trans po3 (fun a z => z.elim) fun a z => po02.sub a z⟩
      | ret d env3 =>
        have q1 := Run.okE (G := G) (W0 := W0) (Os := Os) (H := H) (show Run G W0 Os H (.ok (Out.ret d env3)) _ from q)
        exact OutP.later (o := .ret d env3) q1 fx po02 (fun a z => z) fun a z => .inl z
end
end KS
set_option linter.all false
set_option autoImplicit false
set_option maxRecDepth 100000
namespace KS
open PySem PySem.Spec PyProof.Rows L2

/-! ### from the tree to the core language: what is not covered becomes .nil, which stands for nothing -/
structure Fe where
  ix : Nat
  ps : List Str
  io : Bool
  kws : List (List Str × List Nat)
structure Cc where
  N : List Str
  sc : Scope
  fn : Str → Bool
  fns : List (Str × Fe)
  cs : List (Str × Int)
  bl : List Str
  dn : List Str := []
def ixOf (x : Str) : List Str → Nat → Option Nat
  | [], _ => none
  | y :: ys, i => if x == y then some i else ixOf x ys (i + 1)
def Cc.kind (C : Cc) (x : Str) : Option NameKind := C.sc.names.lookup x
def Cc.slot (C : Cc) (x : Str) : Option Nat :=
  if !(x == ("__debug__" : Str)) && !(x == ("__classdict__" : Str)) then match C.kind x with
    | some .local => ixOf x C.N 0
    | some .cell => ixOf x C.N 0
    | some .free => ixOf x C.N 0
    | _ => none
  else none
def Cc.isGl (C : Cc) (x : Str) : Bool := !(x == ("__debug__" : Str)) && (match C.kind x with | some .globalImplicit => true | _ => false)
/-- names that may be stored to -/
def Cc.dst (C : Cc) (x : Str) : Option Nat := match C.kind x with
  | some .local => ixOf x C.N 0
  | some .cell => if C.fn x then ixOf x C.N 0 else none
  | _ => none
def Cc.loc (C : Cc) (x : Str) : Bool := match C.kind x with
  | some .local => true
  | _ => false
def Cc.blk (C : Cc) (scope : Scope) : Cc := { C with sc := relS scope C.sc, fn := fun x => scope.names.lookup x == some .cell }
def Cc.isB (C : Cc) (x : Str) : Bool := C.isGl x && C.bl.contains x && !(x == ("__name__" : Str))

def nst : Expr → Bool
  | .Starred _ _ => false
  | _ => true
def cArg (rec : Expr → E) (C : Cc) : Expr → E
  | .Name x p => match C.slot x with
    | some i => .bor i
    | none => rec (.Name x p)
  | e => rec e
def cArgs (rec : Expr → E) (C : Cc) : List Expr → E
  | [] => .nil
  | e :: es => if nst e then .cons (cArg rec C e) (cArgs rec C es) else .cons .nil .nil
def cLst (rec : Expr → E) : List Expr → E
  | [] => .nil
  | e :: es => if nst e then .cons (rec e) (cLst rec es) else .cons .nil .nil
def cBool (rec : Expr → E) (op : BoolOp) : List Expr → E
  | [] => .nil
  | [a] => rec a
  | a :: b :: r => match op with
    | .And => .and (rec a) (cBool rec op (b :: r))
    | .Or => .or (rec a) (cBool rec op (b :: r))
def opP : Operator → Option Prim
  | .Add => some .add
  | .Sub => some .sub
  | .Mult => some .mul
  | .FloorDiv => some .fdiv
  | .Mod => some .mod
  | .Pow => some .pow
  | .LShift => some .shl
  | .RShift => some .shr
  | .BitAnd => some .band
  | _ => none
def cmpP : CmpOp → Option Prim
  | .Eq => some .eq
  | .NotEq => some .ne
  | .Lt => some .lt
  | .LtE => some .le
  | .Gt => some .gt
  | .GtE => some .ge
  | .In => some .isin
  | .NotIn => some .notin
  | _ => none
def isNoneE : Expr → Bool
  | .Constant .none _ _ => true
  | _ => false
def cPart (rec : Expr → E) (C : Cc) : Option Expr → E
  | none => .lit .non
  | some e => .op .part (.cons (cArg rec C e) .nil)
/-- built-ins of one argument, of two -/
def bl1 (x : Str) : Option Prim :=
  if x == ("len" : Str) then some .len else if x == ("list" : Str) then some .list else if x == ("int" : Str) then some .int else if x == ("repr" : Str) then some .repr else
  if x == ("sorted" : Str) then some .sorted else if x == ("max" : Str) then some .max1 else if x == ("min" : Str) then some .min1 else if x == ("sum" : Str) then some .sum else
  if x == ("all" : Str) then some .all else if x == ("any" : Str) then some .any else if x == ("abs" : Str) then some .abs else if x == ("tuple" : Str) then some .tuple else none
def bl2 (x : Str) : Option Prim := if x == ("max" : Str) then some .max2 else if x == ("min" : Str) then some .min2 else none
def isiP (C : Cc) : Expr → Option Prim
  | .Name x _ => if C.isB x then (if x == ("int" : Str) then some .isInt else if x == ("bool" : Str) then some .isBool else if x == ("list" : Str) then some .isList else none) else none
  | _ => none
/-- keywords' names, if all have one -/
def kwN : List Keyword → Option (List Str)
  | [] => some []
  | ⟨some x, _, _⟩ :: ks => (kwN ks).map (x :: ·)
  | ⟨none, _, _⟩ :: _ => none
def kwV : List Keyword → List Expr
  | [] => []
  | ⟨_, e, _⟩ :: ks => e :: kwV ks
def isBorC : E → Bool
  | .cons (.bor _) _ => true
  | _ => false
/-- range(..), the built-in one -/
def isRange (C : Cc) : Expr → Bool
  | .Call (.Name y _) (a :: as) [] _ => y == ("range" : Str) && C.isB y && (C.slot y).isNone && (C.fns.lookup y).isNone && (a :: as).all nst
  | _ => false
def callArgs : Expr → List Expr
  | .Call _ as _ _ => as
  | _ => []
def cCall (rec : Expr → E) (C : Cc) (x : Str) (args : List Expr) (kws : List Keyword) : E :=
  match C.slot x with
  | some _ => .nil
  | none =>
    if C.isGl x then
      match C.fns.lookup x with
      | some fe => match kws with
        | [] => if fe.io then (if isBorC (cArgs rec C args) then .call fe.ix [] (cArgs rec C args) else .callT fe.ix (cLst rec args)) else .call fe.ix [] (cArgs rec C args)
        | k :: ks => match args, kwN (k :: ks) with
          | [], some ns => match fe.kws.lookup ns with
            | some pm => if !fe.io && !pm.isEmpty then .call fe.ix pm (cArgs rec C (kwV (k :: ks))) else .nil
            | none => .nil
          | _, _ => .nil
      | none => match kws with
        | [] => if C.isB x then match args with
          | [a] => if isRange C a && x == ("list" : Str) then .op .lrng (cArgs rec C (callArgs a)) else match bl1 x with
            | some p => .op p (cArgs rec C [a])
            | none => .nil
          | [a, b] => if x == ("isinstance" : Str) then match isiP C b with
              | some p => .op p (cArgs rec C [a])
              | none => .nil
            else match bl2 x with
              | some p => .op p (cArgs rec C [a, b])
              | none => .nil
          | _ => .nil
          else .nil
        | _ => .nil
    else .nil
def lineOk (apos cpos : Pos) : Bool := apos.endLine == cpos.line
/-- a method's call, as a value -/
def cMeth (rec : Expr → E) (C : Cc) (o : Expr) (m : Str) (apos : Pos) (args : List Expr) (cpos : Pos) : E :=
  match o with
  | .Name x _ => match C.slot x with
    | some i => if lineOk apos cpos && m == ("pop" : Str) then match args with
        | [] => .pop0 i
        | [a] => if nst a then .pop i (cArgs rec C [a]) else .nil
        | _ => .nil
      else .nil
    | none => .nil
  | _ => .nil
def notSet : Expr → Bool
  | .Set _ _ _ => false
  | _ => true
def isTup : Expr → Bool
  | .Tuple _ _ _ => true
  | _ => false
/-- what is walked -/
def cIt (rec : Expr → E) (C : Cc) (tg : Expr) (e : Expr) : IK × E := match e with
  | .Call (.Name x p) args [] pos =>
    if C.isB x && (C.slot x).isNone && (C.fns.lookup x).isNone && args.all nst then
      if x == ("range" : Str) then match args with
        | [_] => (.rng1, cLst rec args)
        | [_, _] => (.rng2, cLst rec args)
        | [_, _, _] => (.rng3, cLst rec args)
        | _ => (.seq, .cons .nil .nil)
      else if x == ("enumerate" : Str) && isTup tg then match args with
        | [_] => (.enum, cLst rec args)
        | _ => (.seq, .cons .nil .nil)
      else if x == ("zip" : Str) && isTup tg then match args with
        | [_, _] => (.zip, cLst rec args)
        | _ => (.seq, .cons .nil .nil)
      else (.seq, .cons (rec e) .nil)
    else (.seq, .cons (rec e) .nil)
  | e => if notSet e then (.seq, .cons (rec e) .nil) else (.seq, .cons .nil .nil)
/-- the target's slots -/
def cTs (C : Cc) : List Expr → Option (List Nat)
  | [] => some []
  | .Name x _ :: es => (C.dst x).bind fun i => (cTs C es).map (i :: ·)
  | _ :: _ => none
def cTg (C : Cc) : Expr → Option (List Nat)
  | .Name x _ => (C.dst x).map fun i => [i]
  | .Tuple es _ _ => (cTs C es).bind fun is => if decide (is.length ≠ 1) then some is else none
  | _ => none
def ownOf (N : List Str) (is : List Nat) : List (Str × Nat) := is.map fun i => (N.getD i ("" : Str), i)
def cIfs (rec : Expr → E) : List Expr → E
  | [] => .lit (.bl true)
  | [c] => rec c
  | _ => .nil
def plainTest : Expr → Bool
  | .UnaryOp .Not _ _ => false
  | .BoolOp _ _ _ => false
  | .IfExp _ _ _ _ => false
  | .Compare _ _ _ _ => false
  | _ => true
/-- a name that holds a dict -/
def dnSlot (C : Cc) : Expr → Option Nat
  | .Name x _ => if C.dn.contains x then C.slot x else none
  | _ => none
def cComp (recC : Cc → Expr → E) (tst : Cc → Expr → E) (C : Cc) (elt : Expr) (gens : List Comprehension) (scope : Scope) : E := match gens with
  | [⟨tg, iter, ifs, 0⟩] =>
    match cTg (C.blk scope) tg with
    | some ts => if blkC C.N C.sc scope (ownOf C.N ts) then
        match dnSlot C iter with
        | some s => .compK (recC (C.blk scope) elt) ts s (cIfs (tst (C.blk scope)) ifs)
        | none => .comp (recC (C.blk scope) elt) ts (cIt (recC C) C tg iter).1 (cIt (recC C) C tg iter).2 (cIfs (tst (C.blk scope)) ifs)
      else .nil
    | none => .nil
  | [⟨tg, iter, [], 0⟩, ⟨tg1, iter1, ifs1, 0⟩] =>
    match cTg (C.blk scope) tg, cTg (C.blk scope) tg1 with
    | some ts, some us => if blkC C.N C.sc scope (ownOf C.N (ts ++ us)) && notSet iter1 then
        .comp2 (recC (C.blk scope) elt) ts (cIt (recC C) C tg iter).1 (cIt (recC C) C tg iter).2 us (cIt (recC (C.blk scope)) (C.blk scope) tg1 iter1).1 (cIt (recC (C.blk scope)) (C.blk scope) tg1 iter1).2 (cIfs (tst (C.blk scope)) ifs1)
      else .nil
    | _, _ => .nil
  | _ => .nil
def dnIn (C : Cc) (op : CmpOp) (b : Expr) : Option (Bool × Nat) := match op with
  | .In => (dnSlot C b).map fun s => (false, s)
  | .NotIn => (dnSlot C b).map fun s => (true, s)
  | _ => none
def cDict (rec : Expr → E) : List (Option Expr) → List Expr → E
  | [some (.Constant (.int k) _ _)], [v] => .dsp k (rec v)
  | _, _ => .nil
def cCmp (rec : Expr → E) (C : Cc) (a : Expr) (ops : List CmpOp) (bs : List Expr) : E := match ops, bs with
  | [op], [b] => if behindInMarks op b then .nil else match op with
    | .Is => if isNoneE b then .op .isN (.cons (cArg rec C a) .nil) else .nil
    | .IsNot => if isNoneE b then .op .notN (.cons (cArg rec C a) .nil) else .nil
    | op => match dnIn C op b with
      | some (neg, s) => .din neg (rec a) s
      | none => match cmpP op with
        | some p => .op p (.cons (cArg rec C a) (.cons (cArg rec C b) .nil))
        | none => .nil
  | [o1, o2], [b, c] => if lastMarks [o1, o2] [b, c] then .nil else match cmpP o1, cmpP o2 with
    | some p, some q => .chn p q (rec a) (rec b) (rec c)
    | _, _ => .nil
  | _, _ => .nil
def litD : Const → Option D
  | .none => some .non
  | .bool b => some (.bl b)
  | .int i => some (.int i)
  | .str s => some (.str s)
  | _ => none
def cCallF (rec : Expr → E) (C : Cc) (f : Expr) (args : List Expr) (kws : List Keyword) (cpos : Pos) : E := match f, kws with
  | .Name x _, kws => cCall rec C x args kws
  | .Attribute o m apos, [] => cMeth rec C o m apos args cpos
  | _, _ => .nil
def cSub (rec : Expr → E) (C : Cc) (a : Expr) (i : Expr) : E := match i with
  | .Slice lo hi st _ => match st with
    | none => .op .sl (.cons (cArg rec C a) (.cons (cPart rec C lo) (.cons (cPart rec C hi) .nil)))
    | some (.UnaryOp .USub (.Constant (.int j) _ _) _) => if lo.isNone && hi.isNone && j == 1 then .op .rev (.cons (cArg rec C a) .nil) else .nil
    | some st => .op .sls (.cons (cArg rec C a) (.cons (cPart rec C lo) (.cons (cPart rec C hi) (.cons (cPart rec C (some st)) .nil))))
  | i => match dnSlot C a with
    | some s => .dget s (rec i)
    | none => .op .ix (.cons (cArg rec C a) (.cons (cArg rec C i) .nil))

mutual
def cE : Nat → Cc → Expr → E
  | 0, _, _ => .nil
  | n + 1, C, e => match e with
    | .Constant c _ _ => match litD c with
      | some d => .lit d
      | none => .nil
    | .Name x _ => match C.slot x with
      | some i => .var i
      | none => if C.isGl x then match C.cs.lookup x with
          | some i => .lit (.int i)
          | none => .nil
        else .nil
    | .BinOp a op b _ => match opP op with
      | some p => .op p (.cons (cArg (cE n C) C a) (.cons (cArg (cE n C) C b) .nil))
      | none => .nil
    | .UnaryOp op a _ => match op with
      | .Not => .op .nt (.cons (cArg (cE n C) C a) .nil)
      | .USub => .op .neg (.cons (cArg (cE n C) C a) .nil)
      | _ => .nil
    | .BoolOp op vs _ => cBool (cE n C) op vs
    | .IfExp c a b _ => .ife (cT n C c) (cE n C a) (cE n C b)
    | .Compare a ops bs _ => cCmp (cE n C) C a ops bs
    | .Call f args kws cpos => if args.all nst then cCallF (cE n C) C f args kws cpos else .nil
    | .Subscript a i _ => cSub (cE n C) C a i
    | .List es _ => .lst (cLst (cE n C) es)
    | .Tuple es _ _ => .tup (cLst (cE n C) es)
    | .ListComp elt gens scope _ => cComp (cE n) (cT n) C elt gens scope
    | .Dict ks vs _ => cDict (cE n C) ks vs
    | _ => .nil
def cT : Nat → Cc → Expr → E
  | 0, _, _ => .nil
  | n + 1, C, e => match e with
    | .UnaryOp .Not a _ => .op .nt (.cons (cT n C a) .nil)
    | .BoolOp op vs _ => cBool (cT n C) op vs
    | .Compare a ops bs _ => cCmp (cE n C) C a ops bs
    | .IfExp _ _ _ _ => .nil
    | e => cE n C e
end
end KS
set_option linter.all false
set_option autoImplicit false
set_option maxRecDepth 100000
namespace KS
open PySem PySem.Spec PyProof.Rows L2
def badS : S := .ex .nil
def notComp : Expr → Bool
  | .ListComp _ _ _ _ => false
  | .SetComp _ _ _ _ => false
  | .DictComp _ _ _ _ _ => false
  | _ => true
/-- a comprehension straight into a name of its own line -/
def swB (C : Cc) (x : Str) (p : Pos) (e : Expr) : Bool := match e with
  | .ListComp _ _ s q => C.loc x && p.line == q.line && !(s.names.any fun (n, k) => n == x && (k == .local || k == .cell))
  | _ => false
/-- told[1][0]: the name's slot, the places -/
def natE : Expr → Option Nat
  | .Constant (.int (.ofNat k)) _ _ => some k
  | _ => none
def pathOf : Nat → Cc → Expr → List Nat → Option (Nat × List Nat)
  | 0, _, _, _ => none
  | n + 1, C, e, ks => match e with
    | .Name x _ => (C.slot x).map fun i => (i, ks)
    | .Subscript a j _ => (natE j).bind fun k => pathOf n C a (k :: ks)
    | _ => none
def litE : Expr → Option D
  | .Constant c _ _ => litD c
  | _ => none
def slotE (C : Cc) : Expr → Option Nat
  | .Name x _ => C.slot x
  | _ => none
def isName : Expr → Bool
  | .Name _ _ => true
  | _ => false
def notSlice : Expr → Bool
  | .Slice _ _ _ _ => false
  | _ => true
/-- o.append(a) as a statement -/
def cApp (n : Nat) (C : Cc) (o a : Expr) : S := match o with
  | .Name x _ => match C.slot x with
    | some i => .app i (cE n C a)
    | none => badS
  | .Subscript b ix _ => match pathOf 8 C o [], litE a with
    | some (i, ks), some d => .appP i ks d
    | _, _ => match slotE C b, slotE C a with
      | some i, some j => if notSlice ix then .appX i (cE n C ix) j else badS
      | _, _ => badS
  | _ => badS
/-- a, b = (e, f) where the tuple is not made -/
def parNs : List Expr → Option (List (Str × Pos))
  | [] => some []
  | .Name x p :: es => (parNs es).map ((x, p) :: ·)
  | _ :: _ => none
/-- told[i], told[j] = .. -/
def swpOf (C : Cc) : List Expr → Option (Nat × Expr × Expr)
  | [.Subscript (.Name x _) ix _, .Subscript (.Name y _) jx _] => match C.slot x, C.slot y with
    | some i, some j => if decide (i = j) && notSlice ix && notSlice jx then some (i, ix, jx) else none
    | _, _ => none
  | _ => none
/-- a pair that is stored name by name -/
def parOk (ts vs : List Expr) : Bool := vs.all nst && !(vs.all (constantsAlone 8)) && decide (ts.length = vs.length) && decide (ts.length = 2)
def cAsgT (n : Nat) (C : Cc) (ts : List Expr) (e : Expr) : S := match cTs C ts with
  | some is => match e with
    | .Tuple vs _ _ => if parOk ts vs then .asgT is (cE n C e) else badS
    | e => if notComp e then .asgT is (cE n C e) else badS
  | none => match swpOf C ts, e with
    | some (i, ix, jx), .Tuple [a, b] _ _ => if nst a && nst b then .swp i (cE n C ix) (cE n C jx) (cE n C a) (cE n C b) else badS
    | _, _ => badS
def cAsg (n : Nat) (C : Cc) (tg e : Expr) : S := match tg with
  | .Name x p => match C.dst x with
    | some i => .asg i (cE n C e)
    | none => badS
  | .Tuple ts _ _ => cAsgT n C ts e
  | .Subscript (.Name o _) ix _ => match C.slot o with
    | some i => if notSlice ix && notComp e then (if C.dn.contains o then .dset i (cE n C ix) (cE n C e) else .seti i (cE n C ix) (cE n C e)) else badS
    | none => badS
  | _ => badS
def isVarC : E → Bool
  | .var _ => true
  | _ => false
def cRet (n : Nat) (C : Cc) (e : Expr) : S := match slotE C e with
  | some i => .ret (.var i)
  | none => if isVarC (cE n C e) then badS else .ret (cE n C e)
def augP : Operator → Option Prim
  | .Add => some .add
  | .Mult => some .mul
  | _ => none
def cSs (rec : Stmt → S) : List Stmt → S
  | [] => .skip
  | [s] => rec s
  | s :: r => .seq (rec s) (cSs rec r)
/-- in a def that is marked so: tests change nothing -/
def cPin (C : Cc) (A : E) : E := if C.dn.contains ("." : Str) then .pin A else A
def cS : Nat → Cc → Stmt → S
  | 0, _, _ => badS
  | n + 1, C, st => match st with
    | .Assign [tg] e _ => cAsg n C tg e
    | .AugAssign (.Name x _) op e _ => match C.dst x, augP op with
      | some i, some p => .aug i p (cE n C e)
      | _, _ => badS
    | .Expr e _ => match e with
      | .Call (.Attribute o m apos) [a] [] cpos => if m == ("append" : Str) then (if lineOk apos cpos && nst a then cApp n C o a else badS) else .ex (cE n C e)
      | e => if notComp e then .ex (cE n C e) else badS
    | .If c a b _ => .ifs (cPin C (cT n C c)) (cSs (cS n C) a) (cSs (cS n C) b)
    | .While c b [] _ => .whl (cT n C c) (cSs (cS n C) b)
    | .For tg it b [] _ => match cTg C tg with
      | some ts => .for_ ts (cIt (cE n C) C tg it).1 (cIt (cE n C) C tg it).2 (cSs (cS n C) b)
      | none => badS
    | .Return (some e) _ => cRet n C e
    | .Return none _ => .ret (.lit .non)
    | .Pass _ => .skip
    | .Break _ => .brk
    | .Continue _ => .cnt
    | _ => badS
end KS
set_option linter.all false
set_option autoImplicit false
set_option maxRecDepth 100000
namespace KS
open PySem PySem.Spec PyProof.Rows L2

/-- the context fits the compiled names -/
structure OkX (G : Sg) (C : Cc) (X : Cx) : Prop where
  K : X.K = G.K
  N : X.N = C.N
  nd : C.N.Nodup
  sc : X.env.scope = C.sc
  knd : C.sc.kind = .function
  fn : ∀ x, C.fn x = true → X.fn x = true
  calm : X.calm = true
  gu : X.A.guards = some []
  un : X.A.units + 64 < cLine
  ps : Passes (L2.CX X.prog X.w) X G.Ex
  fns : ∀ x fe, C.fns.lookup x = some fe → ∃ (k : Nat) (f : Addr) (fd : FuncData), X.mg x = some (.ref f) ∧ Room k X.A ∧ FnG X.prog X.w X.K X.mg X.base k f fd fe.ps (spF G fe.ix fe.ps.length) ∧ PySem.W.keepIn X.K (.ref f) = true ∧ Binds X.K fd fe.ps [] ∧
    (∀ (ns : List Str) (pm : List Nat), fe.kws.lookup ns = some pm → KwTo X.K fd fe.ps ns pm) ∧ G.C.io fe.ix = fe.io ∧ ∀ ds : List D, ds.length ≠ fe.ps.length → G.C.run fe.ix ds = .bad
  cs : ∀ x i, C.cs.lookup x = some i → ∃ u, X.mg x = some u ∧ RelV (.int i) u
  bl : ∀ x, C.bl.contains x = true → X.mg x = none

section
variable {X : Cx} {e : Expr} {es : List Expr} {t t' : TE} {u u' : TA}
theorem weakE (h : PE X e t) (ht : ∀ σ H Q, t' σ H Q → t σ H Q) : PE X e t' := ⟨fun pins s σ H Q I q => h.run pins s σ H Q I (ht σ H Q q)⟩
theorem weakA (h : PA X es u) (ht : ∀ σ H Q, u' σ H Q → u σ H Q) : PA X es u' := ⟨fun p pins s σ H Q I q => h.run p pins s σ H Q I (ht σ H Q q)⟩
theorem weakT {t t' : TT} (h : PT X e t) (ht : ∀ σ H Q, t' σ H Q → t σ H Q) : PT X e t' := ⟨fun pins s σ H Q I q => h.run pins s σ H Q I (ht σ H Q q)⟩
theorem weakS {st : Stmt} {t t' : TS} (h : PS X st t) (ht : ∀ D σ H, t' D σ H → t D σ H) : PS X st t' := ⟨fun pins s σ H D I q => h.run pins s σ H D I (ht D σ H q)⟩
theorem weakSs {st : List Stmt} {t t' : TS} (h : PSs X st t) (ht : ∀ D σ H, t' D σ H → t D σ H) : PSs X st t' := ⟨fun pins s σ H D I q => h.run pins s σ H D I (ht D σ H q)⟩
theorem weakI {tg : Expr} {t t' : TI} (h : PI X tg e t) (ht : ∀ σ H Q, t' σ H Q → t σ H Q) : PI X tg e t' := ⟨fun pins s σ H Q I q => h.run pins s σ H Q I (ht σ H Q q)⟩
theorem nst_star {env : PySem.Env} (h : nst e = true) : starEach (e :: es) env = (false, eval e env) :: starEach es env := by
  cases e <;> first | rfl | (simp [nst] at h)
theorem nst_all {env : PySem.Env} {pos : Pos} : ∀ {es : List Expr}, es.all nst = true → (backTo pos (starEach es env)).any (·.1) = false
  | [], _ => rfl
  | e :: es, h => by
    simp only [List.all_cons, Bool.and_eq_true] at h
    rw [nst_star h.1]
    have ih := nst_all (env := env) (pos := pos) h.2
    unfold backTo at ih ⊢
    simpa using ih
theorem ixOf_get {x : Str} : ∀ {l : List Str} {i k : Nat}, ixOf x l k = some i → k ≤ i ∧ l[i - k]? = some x
  | [], i, k, h => by cases h
  | y :: ys, i, k, h => by
    unfold ixOf at h
    split at h
    · rename_i hc
      cases h
      have : x = y := by simpa using hc
      subst this
      exact ⟨Nat.le_refl _, by simp⟩
    · obtain ⟨h1, h2⟩ := ixOf_get h
      refine ⟨by omega, ?_⟩
      have : i - k = (i - (k + 1)) + 1 := by omega
      rw [this]
      simpa using h2
end
section
variable {G : Sg} {C : Cc} {X : Cx}
theorem tE_nil {σ : L2.St} {H : Hp} {Q : VK} (h : tE G .nil σ H Q) : False := by
  obtain ⟨W0, Os, env, e, r⟩ := h
  exact r
theorem pe_bad (X : Cx) (e : Expr) : PE X e (tE G .nil) := ⟨fun _ _ _ _ _ _ h => (tE_nil h).elim⟩
theorem tL_bad {σ : L2.St} {H : Hp} {Q : List V → Hp → Prop} {A : E} (h : tL G (.cons .nil A) σ H Q) : False := tE_nil (tL_cons h)
theorem tA_bad {σ : L2.St} {H : Hp} {Q : List V → Hp → Prop} {A : E} (h : tA G (.cons .nil A) σ H Q) : False := tE_nil (G := G) (tA_cons h)
theorem slot_ok (ok : OkX G C X) {x : Str} {i : Nat} (h : C.slot x = some i) {pos : Pos} : PE X (.Name x pos) (tVar i) := by
  unfold Cc.slot at h
  split at h
  · rename_i hc
    simp only [Bool.and_eq_true, Bool.not_eq_true'] at hc
    have hN : ∀ {j}, ixOf x C.N 0 = some j → X.N[j]? = some x := fun {j} q => by rw [ok.N]; exact (ixOf_get q).2
    have go : Vis X.env.scope x → X.N[i]? = some x → PE X (.Name x pos) (tVar i) := fun v hn => pe_var hn v hc.1 hc.2
    split at h
    · rename_i hk; exact go (.inl (by rw [ok.sc]; exact hk)) (hN h)
    · rename_i hk; exact go (.inr (.inl (by rw [ok.sc]; exact hk))) (hN h)
    · rename_i hk; exact go (.inr (.inr (by rw [ok.sc]; exact hk))) (hN h)
    · cases h
  · cases h
theorem dst_ok (ok : OkX G C X) {x : Str} {i : Nat} (h : C.dst x = some i) : X.N.Nodup ∧ X.N[i]? = some x ∧ Loc X.env.scope x ∧ (X.fn x = true ∨ X.env.scope.names.lookup x = some .local) := by
  have hN : ∀ {j}, ixOf x C.N 0 = some j → X.N[j]? = some x := fun {j} q => by rw [ok.N]; exact (ixOf_get q).2
  have nd : X.N.Nodup := by rw [ok.N]; exact ok.nd
  unfold Cc.dst at h
  split at h
  · rename_i hk
    have hk : X.env.scope.names.lookup x = some .local := by rw [ok.sc]; exact hk
    exact ⟨nd, hN h, .inl hk, .inr hk⟩
  · rename_i hk
    have hk : X.env.scope.names.lookup x = some .cell := by rw [ok.sc]; exact hk
    split at h
    · rename_i hf
      exact ⟨nd, hN h, .inr hk, .inl (ok.fn x hf)⟩
    · cases h
  · cases h
theorem gl_ok (ok : OkX G C X) {x : Str} (h : C.isGl x = true) : Gl X x ∧ (x == ("__debug__" : Str)) = false := by
  unfold Cc.isGl at h
  simp only [Bool.and_eq_true, Bool.not_eq_true'] at h
  refine ⟨?_, h.1⟩
  have h2 := h.2
  split at h2
  · rename_i hk
    show X.env.scope.names.lookup x = _
    rw [ok.sc]; exact hk
  · cases h2
/-- what holds of the recursive call -/
structure RecOk (G : Sg) (C : Cc) (X : Cx) (rec : Expr → E) : Prop where
  pe : ∀ e, PE X e (tE G (rec e))
  nb : ∀ e, isBor (rec e) = false
theorem cArg_ok (ok : OkX G C X) {rec : Expr → E} (hr : RecOk G C X rec) (e : Expr) : PE X e (tO G (cArg rec C e)) := by
  have dflt : ∀ e, PE X e (tO G (rec e)) := fun e => by rw [tO_ne (hr.nb e)]; exact hr.pe e
  unfold cArg
  split
  · split
    · rename_i h; exact slot_ok ok h
    · exact dflt _
  · exact dflt _
theorem cArgs_ok (ok : OkX G C X) {rec : Expr → E} (hr : RecOk G C X rec) : ∀ es : List Expr, PA X es (tA G (cArgs rec C es))
  | [] => weakA pa_nil fun σ H Q h => tA_nil h
  | e :: es => by
    unfold cArgs
    split
    · rename_i h
      exact weakA (pa_cons (cArg_ok ok hr e) (cArgs_ok ok hr es) (nst_star h)) fun σ H Q h => tA_cons h
    · exact ⟨fun _ _ _ _ _ _ _ h => (tA_bad h).elim⟩
theorem cLst_ok {rec : Expr → E} (hr : RecOk G C X rec) : ∀ es : List Expr, PA X es (tL G (cLst rec es))
  | [] => weakA pa_nil fun σ H Q h => tL_nil h
  | e :: es => by
    unfold cLst
    split
    · rename_i h
      exact weakA (pa_cons (hr.pe e) (cLst_ok hr es) (nst_star h)) fun σ H Q h => tL_cons h
    · exact ⟨fun _ _ _ _ _ _ _ h => (tL_bad h).elim⟩
theorem cLst_nil {rec : Expr → E} (es : List Expr) : cLst rec es = .nil ↔ es = [] := by
  cases es with
  | nil => simp [cLst]
  | cons e es => unfold cLst; split <;> simp
/-! ### operators -/
theorem op2 {p : Prim} {r : R2} {A B : E} {σ : L2.St} {H : Hp} {Q : VK} (hr : PrimR G p (r2L r)) (h : tE G (.op p (.cons A (.cons B .nil))) σ H Q) : tOp r (tO G A) (tO G B) σ H Q := by
  refine tO_mono (tA_cons (tE_op hr h)) fun x H1 h1 => ?_
  refine tO_mono (tA_cons h1) fun y H2 h2 => ?_
  obtain ⟨x', y', e, q⟩ := tA_nil h2
  cases e
  exact q
theorem op1 {p : Prim} {r : V → Hp → VK → Prop} {A : E} {σ : L2.St} {H : Hp} {Q : VK} (hr : PrimR G p (r1L r)) (h : tE G (.op p (.cons A .nil)) σ H Q) : tO G A σ H fun x H1 => r x H1 Q := by
  refine tO_mono (tA_cons (tE_op hr h)) fun x H1 h1 => ?_
  obtain ⟨x', e, q⟩ := tA_nil h1
  cases e
  exact q
theorem rI_of0 {X : Cx} {f : Value → Value → Sem Value} {g : Int → Int → V} (h : OpR X f (rI0 g)) : OpR X f (rI (fun _ _ => True) g) := fun pins s σ H x y v u Q I r1 r2 ⟨i, j, e1, e2, _, q⟩ => h pins s σ H x y v u Q I r1 r2 ⟨i, j, e1, e2, q⟩
theorem opP_ok (ok : OkX G C X) {op : Operator} {p : Prim} (h : opP op = some p) : ∃ r, OpR X (binaryOp op) r ∧ PrimR G p (r2L r) := by
  unfold opP at h
  split at h <;> cases h
  · exact ⟨rAddA G.K, by rw [← ok.K]; exact op_addA, pr_add⟩
  · exact ⟨_, rI_of0 op_sub, pr_i2 (fun _ => rfl) (fun _ _ _ => trivial) fun _ _ _ _ _ => .int⟩
  · exact ⟨_, op_mulA, pr_mul⟩
  · exact ⟨_, op_fdivN, pr_i2 (fun _ => rfl) (fun a b h => by simp only [Bool.and_eq_true, decide_eq_true_eq] at h; exact ⟨h.1, h.2⟩) fun _ _ _ _ _ => .int⟩
  · exact ⟨_, op_modN, pr_i2 (fun _ => rfl) (fun a b h => by simpa using h) fun _ _ _ _ _ => .int⟩
  · exact ⟨_, op_powA, pr_i2 (fun _ => rfl) (fun a b h => by simp only [Bool.and_eq_true, decide_eq_true_eq] at h; exact h) fun _ _ _ _ _ => .int⟩
  · exact ⟨_, op_shl, pr_i2 (fun _ => rfl) (fun a b h => by simp only [Bool.and_eq_true, decide_eq_true_eq] at h; exact ⟨h.1.1, h.1.2, h.2⟩) fun _ _ _ _ _ => .int⟩
  · exact ⟨_, op_shr, pr_i2 (fun _ => rfl) (fun a b h => by simpa using h) fun _ _ _ _ _ => .int⟩
  · exact ⟨_, rI_of0 op_and, pr_i2 (fun _ => rfl) (fun _ _ _ => trivial) fun _ _ _ _ _ => .int⟩
theorem cmpP_ok (ok : OkX G C X) {op : CmpOp} {p : Prim} (h : cmpP op = some p) : ∃ r, OpR X (compareOp op) r ∧ PrimR G p (r2L r) := by
  unfold cmpP at h
  split at h <;> cases h
  · exact ⟨rEqA G.K, by rw [← ok.K]; exact op_eqA ok.un, pr_eqn false fun _ => rfl⟩
  · exact ⟨rNeA G.K, by rw [← ok.K]; exact op_neA ok.un, pr_eqn true fun _ => rfl⟩
  · exact ⟨_, rI_of0 op_lt, pr_i2 (fun _ => rfl) (fun _ _ _ => trivial) fun _ _ _ _ _ => .bl⟩
  · exact ⟨_, rI_of0 op_le, pr_i2 (fun _ => rfl) (fun _ _ _ => trivial) fun _ _ _ _ _ => .bl⟩
  · exact ⟨_, rI_of0 op_gt, pr_i2 (fun _ => rfl) (fun _ _ _ => trivial) fun _ _ _ _ _ => .bl⟩
  · exact ⟨_, rI_of0 op_ge, pr_i2 (fun _ => rfl) (fun _ _ _ => trivial) fun _ _ _ _ _ => .bl⟩
  · exact ⟨rIn G.K false, by rw [← ok.K]; exact op_in_seq, pr_in false fun _ => rfl⟩
  · exact ⟨rIn G.K true, by rw [← ok.K]; exact op_notIn_seq, pr_in true fun _ => rfl⟩
theorem dnSlot_ok (ok : OkX G C X) {b : Expr} {s : Nat} (h : dnSlot C b = some s) : PE X b (tVar s) := by
  unfold dnSlot at h
  split at h
  · split at h
    · exact slot_ok ok h
    · cases h
  · cases h
theorem isNone_eq {b : Expr} (h : isNoneE b = true) : ∃ k p, b = .Constant .none k p := by
  unfold isNoneE at h
  split at h
  · exact ⟨_, _, rfl⟩
  · cases h
theorem cCmp_ok (ok : OkX G C X) {rec : Expr → E} (hr : RecOk G C X rec) (a : Expr) (ops : List CmpOp) (bs : List Expr) (pos : Pos) :
    PE X (.Compare a ops bs pos) (tE G (cCmp rec C a ops bs)) ∧ PT X (.Compare a ops bs pos) (tT G (cCmp rec C a ops bs)) := by
  have bad : PE X (.Compare a ops bs pos) (tE G .nil) ∧ PT X (.Compare a ops bs pos) (tT G .nil) := ⟨pe_bad _ _, ⟨fun _ _ _ _ _ _ h => (tE_nil h).elim⟩⟩
  have one : ∀ {op : CmpOp} {b : Expr} {r : R2} {tb : TE} {A : E}, behindInMarks op b = false → OpR X (compareOp op) r → PE X b tb → (∀ σ H Q, tE G A σ H Q → tOp r (tO G (cArg rec C a)) tb σ H Q) →
      PE X (.Compare a [op] [b] pos) (tE G A) ∧ PT X (.Compare a [op] [b] pos) (tT G A) := fun {op b r tb A} hm ho hb hA =>
    ⟨weakE (pe_cmpR ho (cArg_ok ok hr a) hb hm) hA, weakT (pt_cmpR ho (cArg_ok ok hr a) hb hm) fun σ H Q h => hA σ H _ h⟩
  unfold cCmp
  split
  · rename_i op b
    split
    · exact bad
    · rename_i hm
      have hm : behindInMarks op b = false := by simpa using hm
      split
      · split
        · rename_i hb
          obtain ⟨k, p, rfl⟩ := isNone_eq hb
          exact one hm op_isN pe_non fun σ H Q h => tO_mono (op1 (pr_isN false fun _ => rfl) h) fun x H1 q => ⟨rfl, q⟩
        · exact bad
      · split
        · rename_i hb
          obtain ⟨k, p, rfl⟩ := isNone_eq hb
          exact one hm op_notN pe_non fun σ H Q h => tO_mono (op1 (pr_isN true fun _ => rfl) h) fun x H1 q => ⟨rfl, q⟩
        · exact bad
      · split
        · rename_i neg s hd
          have hu : X.A.units + 1 < cLine := by have := ok.un; omega
          unfold dnIn at hd
          split at hd
          · obtain ⟨s', hs, he⟩ := Option.map_eq_some_iff.mp hd
            cases he
            have hb := dnSlot_ok ok hs
            exact ⟨weakE (pe_cmp (pc_din hu (hr.pe a) hb) hm) fun σ H Q h => tE_din h, weakT (pt_cmp (pc_din hu (hr.pe a) hb) hm) fun σ H Q h => tE_din (G := G) h⟩
          · obtain ⟨s', hs, he⟩ := Option.map_eq_some_iff.mp hd
            cases he
            have hb := dnSlot_ok ok hs
            exact ⟨weakE (pe_cmp (pc_dnotin hu (hr.pe a) hb) hm) fun σ H Q h => tE_din h, weakT (pt_cmp (pc_dnotin hu (hr.pe a) hb) hm) fun σ H Q h => tE_din (G := G) h⟩
          · cases hd
        · split
          · rename_i hp
            obtain ⟨r, h1, h2⟩ := cmpP_ok ok hp
            exact one hm h1 (cArg_ok ok hr b) fun σ H Q h => op2 h2 h
          · exact bad
  · rename_i o1 o2 b c
    split
    · exact bad
    · rename_i hm
      have hm : lastMarks [o1, o2] [b, c] = false := by simpa using hm
      split
      · rename_i hp hq
        obtain ⟨r1, a1, b1⟩ := cmpP_ok ok hp
        obtain ⟨r2, a2, b2⟩ := cmpP_ok ok hq
        exact ⟨weakE (pe_chain a1 a2 (hr.pe a) (hr.pe b) (hr.pe c) hm) fun σ H Q h => tE_chn b1 b2 h, weakT (pt_chain a1 a2 (hr.pe a) (hr.pe b) (hr.pe c) hm) fun σ H Q h => tE_chn b1 b2 h⟩
      · exact bad
  · exact bad
theorem cBool_ok {rec : Expr → E} (hr : ∀ e, PE X e (tE G (rec e))) (op : BoolOp) (pos : Pos) : ∀ vs : List Expr, PE X (.BoolOp op vs pos) (tE G (cBool rec op vs))
  | [] => pe_bad _ _
  | [a] => pe_one (hr a)
  | a :: b :: r => by
    have ih := cBool_ok hr op pos (b :: r)
    cases op with
    | And => exact weakE (pe_and (hr a) ih) fun σ H Q h => tE_and h
    | Or => exact weakE (pe_or (hr a) ih) fun σ H Q h => tE_or h
theorem cBoolT_ok {rec : Expr → E} (hr : ∀ e, PT X e (tT G (rec e))) (op : BoolOp) (pos : Pos) : ∀ vs : List Expr, PW X (.BoolOp op vs pos) (tT G (cBool rec op vs))
  | [] => ⟨fun _ _ _ _ _ _ _ h => (tE_nil h).elim⟩
  | [a] => by cases op with
    | And => exact pw_and1 (hr a)
    | Or => exact pw_or1 (hr a)
  | a :: b :: r => by
    have ih := cBoolT_ok hr op pos (b :: r)
    cases op with
    | And =>
      refine ⟨fun wh pins s σ H Q I h => (pw_and (hr a) ih).run wh pins s σ H Q I ?_⟩
      obtain h := tE_and h
      refine tE_mono h fun v H1 ⟨c, e, q⟩ => ⟨c, e, ?_⟩
      cases c with
      | true => exact q
      | false => obtain ⟨c', e', q⟩ := q; cases e'; exact q
    | Or =>
      refine ⟨fun wh pins s σ H Q I h => (pw_or (hr a) ih).run wh pins s σ H Q I ?_⟩
      obtain h := tE_or h
      refine tE_mono h fun v H1 ⟨c, e, q⟩ => ⟨c, e, ?_⟩
      cases c with
      | false => exact q
      | true => obtain ⟨c', e', q⟩ := q; cases e'; exact q
end
end KS
set_option linter.all false
set_option autoImplicit false
set_option maxRecDepth 100000
namespace KS
open PySem PySem.Spec PyProof.Rows L2
theorem bt_len : bootBuiltins "len" = some (.builtin "len") := by decide +kernel
theorem bt_list : bootBuiltins "list" = some (.type "list") := by decide +kernel
theorem bt_tuple : bootBuiltins "tuple" = some (.type "tuple") := by decide +kernel
theorem bt_int : bootBuiltins "int" = some (.type "int") := by decide +kernel
theorem bt_bool : bootBuiltins "bool" = some (.type "bool") := by decide +kernel
theorem bt_repr : bootBuiltins "repr" = some (.builtin "repr") := by decide +kernel
theorem bt_sorted : bootBuiltins "sorted" = some (.builtin "sorted") := by decide +kernel
theorem bt_max : bootBuiltins "max" = some (.builtin "max") := by decide +kernel
theorem bt_min : bootBuiltins "min" = some (.builtin "min") := by decide +kernel
theorem bt_sum : bootBuiltins "sum" = some (.builtin "sum") := by decide +kernel
theorem bt_all : bootBuiltins "all" = some (.builtin "all") := by decide +kernel
theorem bt_any : bootBuiltins "any" = some (.builtin "any") := by decide +kernel
theorem bt_abs : bootBuiltins "abs" = some (.builtin "abs") := by decide +kernel
theorem bt_isi : bootBuiltins "isinstance" = some (.builtin "isinstance") := by decide +kernel
section
variable {G : Sg} {C : Cc} {X : Cx}
theorem isB_ok (ok : OkX G C X) {x : Str} (h : C.isB x = true) : Gl X x ∧ (x == ("__debug__" : Str)) = false ∧ X.mg x = none ∧ x ≠ ("__name__" : Str) := by
  unfold Cc.isB at h
  simp only [Bool.and_eq_true, Bool.not_eq_true'] at h
  obtain ⟨h1, h2⟩ := gl_ok ok h.1.1
  exact ⟨h1, h2, ok.bl x h.1.2, fun e => by have := h.2; rw [e] at this; simp at this⟩
/-- a built-in's call -/
def BlR (X : Cx) (x : Str) (r : List V → Hp → VK → Prop) : Prop := (∃ id, bootBuiltins x = some (.builtin id) ∧ CallR X (.builtin id) r) ∨ ∃ T, bootBuiltins x = some (.type T) ∧ CallR X (.type T) r
theorem pe_blt (ok : OkX G C X) {x : Str} {r : List V → Hp → VK → Prop} (hx : C.isB x = true) (hr : BlR X x r) {e : Expr} {es : List Expr} {t : TA} (ha : PA X (e :: es) t) (hn : (e :: es).all nst = true) {p pos : Pos} : PE X (.Call (.Name x p) (e :: es) [] pos) (tCB r t) := by
  obtain ⟨h1, h2, h3, h4⟩ := isB_ok ok hx
  simp only [List.all_cons, Bool.and_eq_true] at hn
  rcases hr with ⟨id, hb, hc⟩ | ⟨T, hb, hc⟩
  · exact pe_callB hc h1 h3 hb ha h4 h2 (nst_star hn.1) (nst_all hn.2)
  · exact pe_callTy hc h1 h3 hb ha h4 h2 (nst_star hn.1) (nst_all hn.2)
theorem ite_of {α : Type} {c : Bool} {a b : Option α} {p : α} (h : (if c = true then a else b) = some p) : (c = true ∧ a = some p) ∨ (c = false ∧ b = some p) := by
  cases c with
  | true => exact .inl ⟨rfl, h⟩
  | false => exact .inr ⟨rfl, h⟩
theorem bl1_ok (ok : OkX G C X) {x : Str} {p : Prim} (h : bl1 x = some p) : ∃ r, BlR X x r ∧ PrimR G p r := by
  unfold bl1 at h
  rcases ite_of h with ⟨hx, h⟩ | ⟨_, h⟩
  · obtain rfl := (beq_iff_eq.mp hx); cases h; exact ⟨rLen G.K, .inl ⟨_, bt_len, by rw [← ok.K]; exact call_len_seq⟩, pr_len⟩
  rcases ite_of h with ⟨hx, h⟩ | ⟨_, h⟩
  · obtain rfl := (beq_iff_eq.mp hx); cases h; exact ⟨rListA G.K, .inr ⟨_, bt_list, by rw [← ok.K]; exact call_list_of⟩, pr_list⟩
  rcases ite_of h with ⟨hx, h⟩ | ⟨_, h⟩
  · obtain rfl := (beq_iff_eq.mp hx); cases h; exact ⟨rIntA, .inr ⟨_, bt_int, call_int1⟩, pr_int⟩
  rcases ite_of h with ⟨hx, h⟩ | ⟨_, h⟩
  · obtain rfl := (beq_iff_eq.mp hx); cases h; exact ⟨rReprA G.K, .inl ⟨_, bt_repr, by rw [← ok.K]; exact call_reprA ok.gu ok.un⟩, pr_repr⟩
  rcases ite_of h with ⟨hx, h⟩ | ⟨_, h⟩
  · obtain rfl := (beq_iff_eq.mp hx); cases h; exact ⟨rSortedI G.K, .inl ⟨_, bt_sorted, by rw [← ok.K]; exact cr_sortedI⟩, pr_sorted⟩
  rcases ite_of h with ⟨hx, h⟩ | ⟨_, h⟩
  · obtain rfl := (beq_iff_eq.mp hx); cases h; exact ⟨rMax G.K, .inl ⟨_, bt_max, by rw [← ok.K]; exact cr_max ok.calm⟩, pr_max1⟩
  rcases ite_of h with ⟨hx, h⟩ | ⟨_, h⟩
  · obtain rfl := (beq_iff_eq.mp hx); cases h; exact ⟨rMin G.K, .inl ⟨_, bt_min, by rw [← ok.K]; exact cr_min ok.calm⟩, pr_min1⟩
  rcases ite_of h with ⟨hx, h⟩ | ⟨_, h⟩
  · obtain rfl := (beq_iff_eq.mp hx); cases h; exact ⟨rSum G.K, .inl ⟨_, bt_sum, by rw [← ok.K]; exact cr_sum ok.calm⟩, pr_sum⟩
  rcases ite_of h with ⟨hx, h⟩ | ⟨_, h⟩
  · obtain rfl := (beq_iff_eq.mp hx); cases h; exact ⟨rAll G.K, .inl ⟨_, bt_all, by rw [← ok.K]; exact cr_all ok.calm⟩, pr_all⟩
  rcases ite_of h with ⟨hx, h⟩ | ⟨_, h⟩
  · obtain rfl := (beq_iff_eq.mp hx); cases h; exact ⟨rAny G.K, .inl ⟨_, bt_any, by rw [← ok.K]; exact cr_any ok.calm⟩, pr_any⟩
  rcases ite_of h with ⟨hx, h⟩ | ⟨_, h⟩
  · obtain rfl := (beq_iff_eq.mp hx); cases h; exact ⟨rAbs, .inl ⟨_, bt_abs, call_abs⟩, pr_abs⟩
  rcases ite_of h with ⟨hx, h⟩ | ⟨_, h⟩
  · obtain rfl := (beq_iff_eq.mp hx); cases h; exact ⟨rTupleA G.K, .inr ⟨_, bt_tuple, by rw [← ok.K]; exact call_tuple_of⟩, pr_tuple⟩
  cases h
theorem bl2_ok (ok : OkX G C X) {x : Str} {p : Prim} (h : bl2 x = some p) : ∃ r, BlR X x r ∧ PrimR G p r := by
  unfold bl2 at h
  repeat' split at h
  all_goals first | (cases h; done) | skip
  all_goals (rename_i hx; obtain rfl := (beq_iff_eq.mp hx); cases h)
  · exact ⟨_, .inl ⟨_, bt_max, call_max2 ok.calm⟩, pr_two (f := fun i j => if j > i then j else i) fun _ => rfl⟩
  · exact ⟨_, .inl ⟨_, bt_min, call_min2 ok.calm⟩, pr_two (f := fun i j => if j < i then j else i) fun _ => rfl⟩
theorem isiP_ok (ok : OkX G C X) {b : Expr} {p : Prim} (h : isiP C b = some p) : nst b = true ∧ ∃ T, PE X b (tC (.ty T)) ∧ PrimR G p (rIsi1 G.K T) := by
  unfold isiP at h
  split at h
  · split at h
    · rename_i hx
      obtain ⟨h1, h2, h3, h4⟩ := isB_ok ok hx
      repeat' split at h
      all_goals first | (cases h; done) | skip
      all_goals (rename_i hx; obtain rfl := (beq_iff_eq.mp hx); cases h)
      · exact ⟨rfl, "int", pe_bltn h1 h3 bt_int rfl h4 h2, pr_isi (fun _ => rfl) kit_int⟩
      · exact ⟨rfl, "bool", pe_bltn h1 h3 bt_bool rfl h4 h2, pr_isi (fun _ => rfl) kit_bool⟩
      · exact ⟨rfl, "list", pe_bltn h1 h3 bt_list rfl h4 h2, pr_isi (fun _ => rfl) kit_list⟩
    · cases h
  · cases h
/-! ### a def's call by names alone -/
theorem pk_of : ∀ {kws : List Keyword} {ns : List Str} {t : TA}, kwN kws = some ns → ns.length = kws.length ∧ (∀ (pos : Pos) (env : PySem.Env), (backToKw pos (keywordEach kws env)).filterMap (·.1) = ns ∧ (backToKw pos (keywordEach kws env)).all (·.1.isSome) = true ∧ (backToKw pos (keywordEach kws env)).any (·.1.isNone) = false)
  | [], ns, t, h => by cases h; exact ⟨rfl, fun _ _ => ⟨rfl, rfl, rfl⟩⟩
  | ⟨some x, e, p⟩ :: ks, ns, t, h => by
    unfold kwN at h
    cases e1 : kwN ks with
    | none => rw [e1] at h; cases h
    | some ms =>
      rw [e1] at h; cases h
      obtain ⟨h1, h2⟩ := pk_of (t := t) e1
      refine ⟨by simp [h1], fun pos env => ?_⟩
      obtain ⟨a, b, c⟩ := h2 pos env
      unfold backToKw at a b c ⊢
      exact ⟨by simpa [keywordEach] using a, by simpa [keywordEach] using b, by simpa [keywordEach] using c⟩
  | ⟨none, e, p⟩ :: ks, ns, t, h => by cases h
/-- the arguments by names, read as a list of arguments -/
theorem cKw_ok (ok : OkX G C X) {rec : Expr → E} (hr : RecOk G C X rec) : ∀ kws : List Keyword, PK X kws (fun σ H Q => tA G (cArgs rec C (kwV kws)) σ H fun vs H1 => vs.length = kws.length → Q vs H1)
  | [] => ⟨fun pos pins s σ H Q I h => pk_nil.run pos pins s σ H Q I (tA_nil (G := G) (σ := σ) h rfl)⟩
  | ⟨nm, e, p⟩ :: ks => by
    show PK X _ (fun σ H Q => tA G (cArgs rec C (e :: kwV ks)) σ H fun vs H1 => vs.length = ks.length + 1 → Q vs H1)
    unfold cArgs
    split
    · exact ⟨fun pos pins s σ H Q I h => (pk_cons (cArg_ok ok hr e) (cKw_ok ok hr ks)).run pos pins s σ H Q I (tO_mono (tA_cons h) fun x H1 q => tA_mono q fun vs H2 z hl => z (by simp [hl]))⟩
    · exact ⟨fun _ _ _ _ _ _ _ h => (tA_bad h).elim⟩
theorem Vals.get {vs : List V} {us : List Value} (r : Vals vs us) : ∀ (i : Nat), (vs[i]? = none ∧ us[i]? = none) ∨ ∃ v u, vs[i]? = some v ∧ us[i]? = some u ∧ RelV v u := by
  induction r with
  | nil => intro i; left; simp
  | cons h _ ih =>
    intro i
    cases i with
    | zero => right; exact ⟨_, _, rfl, rfl, h⟩
    | succ i => simpa using ih i
theorem Vals.perm {vs : List V} {us : List Value} (r : Vals vs us) : ∀ {pm : List Nat} {zs : List V}, (pm.mapM fun i => vs[i]?) = some zs → ∃ ws, (pm.mapM fun i => us[i]?) = some ws ∧ Vals zs ws
  | [], zs, h => by simp at h; subst h; exact ⟨[], by simp, .nil⟩
  | i :: pm, zs, h => by
    rw [List.mapM_cons] at h
    rcases Vals.get r i with ⟨e, _⟩ | ⟨v, u, e1, e2, rv⟩
    · rw [e] at h; cases h
    · rw [e1] at h
      cases e3 : (pm.mapM fun i => vs[i]?) with
      | none => rw [e3] at h; cases h
      | some ys =>
        rw [e3] at h; cases h
        obtain ⟨ws, e4, r4⟩ := Vals.perm r e3
        exact ⟨u :: ws, by rw [List.mapM_cons, e2, e4]; rfl, .cons rv r4⟩
theorem fn_ps (fe : Fe) (h : ∀ ds : List D, ds.length ≠ fe.ps.length → G.C.run fe.ix ds = .bad) : ∀ ds : List D, ds.length ≠ fe.ps.length → G.C.run fe.ix ds = .bad := h
theorem isRange_ok {a : Expr} (h : isRange C a = true) : ∃ y p e es q, a = .Call (.Name y p) (e :: es) [] q ∧ C.isB y = true ∧ y = ("range" : Str) ∧ (e :: es).all nst = true := by
  unfold isRange at h
  split at h
  · rename_i y p e es q
    simp only [Bool.and_eq_true] at h
    exact ⟨y, p, _, _, q, rfl, h.1.1.1.2, beq_iff_eq.mp h.1.1.1.1, h.2⟩
  · cases h
theorem cCall_ok (ok : OkX G C X) {rec : Expr → E} (hr : RecOk G C X rec) {x : Str} {p pos : Pos} {args : List Expr} {kws : List Keyword} (hn : args.all nst = true) : PE X (.Call (.Name x p) args kws pos) (tE G (cCall rec C x args kws)) := by
  unfold cCall
  split
  · exact pe_bad _ _
  · split
    · rename_i hgl
      obtain ⟨g1, g2⟩ := gl_ok ok hgl
      split
      · rename_i fe hfe
        obtain ⟨k, f, fd, hm, hroom, F, hkeep, hb, hkw, hio, hnp⟩ := ok.fns x fe hfe
        split
        · -- by position
          have base : ∀ {e : Expr} {es : List Expr} {t : TE} {u : TA}, (e :: es).all nst = true → PA X (e :: es) u → (∀ σ H Q, t σ H Q → u σ H fun vs H1 => spF G fe.ix fe.ps.length vs H1 Q G.Ex) → PE X (.Call (.Name x p) (e :: es) [] pos) t := by
            intro e es t u hn hu ht
            simp only [List.all_cons, Bool.and_eq_true] at hn
            exact weakE (pe_fn F ok.gu hroom g1 hm hkeep hb ok.ps hu g2 (nst_star hn.1) (nst_all hn.2)) fun σ H Q h => ht σ H Q h
          split
          · rename_i hfio
            split
            · rename_i hbc
              cases args with
              | nil => cases hbc
              | cons e es =>
                have hn' := hn
                simp only [List.all_cons, Bool.and_eq_true] at hn'
                have hA : cArgs rec C (e :: es) = .cons (cArg rec C e) (cArgs rec C es) := by
                  show (if nst e = true then _ else _) = _
                  rw [if_pos hn'.1]
                have he := cArg_ok ok hr e
                rw [hA] at hbc ⊢
                cases hc : cArg rec C e with
                | bor i =>
                  rw [hc] at he
                  exact base hn (pa_cons he (cArgs_ok ok hr es) (nst_star hn'.1)) fun σ H Q h => tE_callio (by rw [hio]; exact hfio) hnp h
                | _ => rw [hc] at hbc; cases hbc
            · cases args with
              | nil => exact weakE (pe_fn0 F ok.gu hroom g1 hm hkeep hb ok.ps g2) fun σ H Q h => tL_nil (tE_callT (by rw [hio]; exact hfio) hnp h)
              | cons e es => exact base hn (cLst_ok hr (e :: es)) fun σ H Q h => tE_callT (by rw [hio]; exact hfio) hnp h
          · rename_i hfio
            cases args with
            | nil => exact weakE (pe_fn0 F ok.gu hroom g1 hm hkeep hb ok.ps g2) fun σ H Q h => tA_nil (tE_call (by rw [hio]; simpa using hfio) hnp h)
            | cons e es => exact base hn (cArgs_ok ok hr (e :: es)) fun σ H Q h => tE_call (by rw [hio]; simpa using hfio) hnp h
        · split
          · rename_i ns hns
            split
            · rename_i pm hpm
              split
              · rename_i hc
                simp only [Bool.and_eq_true, Bool.not_eq_true'] at hc
                obtain ⟨hfio, hpe⟩ := hc
                obtain ⟨hl, hk⟩ := pk_of (t := tNil) hns
                obtain ⟨k1, k2, k3⟩ := hk pos X.env
                refine ⟨fun pins s σ H Q I h => ?_⟩
                refine wpAny_Call_Name_kw (ld_glob I g1 hm ?_ g2)
                refine PySem.W.callWith_KW0 (h₀ := X.base) I.ok.mod.kin hkeep k2 (thn ((cKw_ok ok hr _).run pos pins s σ H _ I (tA_mono (call_core (by rw [hio]; exact hfio) hnp h) fun vs H1 z hl => (And.intro hl z : vs.length = _ ∧ _))) fun ws s2 ⟨vs, H2, I2, rz, hlv, zs, hz, q2⟩ => ⟨I2.kIn, ?_⟩) (by rw [k3]; rfl)
                rw [k1]
                rcases hz with ⟨he, _⟩ | ⟨_, hz⟩
                · rw [he] at hpe; simp at hpe
                · obtain ⟨us', e4, r4⟩ := Vals.perm rz hz
                  have hlw : ws.length = ns.length := by rw [← rz.length, hlv, hl]
                  exact after_call (args := ⟨[], ns.zip ws⟩) F ok.gu hroom ok.ps I2 (hkw ns pm hpm s2 ws us' I2.kIn hlw e4 (by rw [← r4.length]; exact F.len _ _ _ _ q2)) r4 q2
              · exact pe_bad _ _
            · exact pe_bad _ _
          · exact pe_bad _ _
      · split
        · split
          · rename_i hB
            split
            · rename_i a
              split
              · rename_i hrg
                simp only [Bool.and_eq_true] at hrg
                obtain ⟨hrg, hx⟩ := hrg
                obtain rfl := beq_iff_eq.mp hx
                obtain ⟨y, yp, e, es, q, rfl, hyB, rfl, hnn⟩ := isRange_ok hrg
                obtain ⟨l1, l2, l3, l4⟩ := isB_ok ok hB
                obtain ⟨y1, y2, y3, y4⟩ := isB_ok ok hyB
                simp only [List.all_cons, Bool.and_eq_true] at hnn
                exact weakE (pe_lrng ok.calm l1 l3 y1 y3 (cArgs_ok ok hr (e :: es)) (nst_star hnn.1) fun pos => nst_all hnn.2) fun σ H Q h => tE_op pr_lrng h
              · split
                · rename_i pr hp
                  obtain ⟨r, h1, h2⟩ := bl1_ok ok hp
                  exact weakE (pe_blt ok hB h1 (cArgs_ok ok hr [a]) hn) fun σ H Q h => tE_op h2 h
                · exact pe_bad _ _
            · rename_i a b
              split
              · rename_i hx
                obtain rfl := beq_iff_eq.mp hx
                split
                · rename_i pr hp
                  obtain ⟨hb, T, h1, h2⟩ := isiP_ok ok hp
                  have hPA : PA X [a, b] (fun σ H Q => tA G (cArgs rec C [a]) σ H fun xs H1 => Q (xs ++ [.ty T]) H1) := by
                    simp only [List.all_cons, Bool.and_eq_true] at hn
                    refine weakA (pa_cons (cArg_ok ok hr a) (pa_cons h1 pa_nil (nst_star hb)) (nst_star hn.1)) fun σ H Q h => ?_
                    unfold cArgs at h
                    rw [if_pos hn.1] at h
                    exact tO_mono (tA_cons h) fun y H1 q => tA_nil q
                  refine weakE (pe_blt ok hB (.inl ⟨_, bt_isi, call_isi⟩) hPA hn) fun σ H Q h => ?_
                  refine tA_mono (tE_op h2 h) fun xs H1 ⟨y, e, q⟩ => ?_
                  subst e
                  rw [ok.K]; exact q
                · exact pe_bad _ _
              · split
                · rename_i pr hp
                  obtain ⟨r, h1, h2⟩ := bl2_ok ok hp
                  exact weakE (pe_blt ok hB h1 (cArgs_ok ok hr [a, b]) hn) fun σ H Q h => tE_op h2 h
                · exact pe_bad _ _
            · exact pe_bad _ _
          · exact pe_bad _ _
        · exact pe_bad _ _
    · exact pe_bad _ _
end
end KS
set_option linter.all false
set_option autoImplicit false
set_option maxRecDepth 100000
namespace KS
open PySem PySem.Spec PyProof.Rows L2
theorem bt_range : bootBuiltins "range" = some (.type "range") := by decide +kernel
section
variable {G : Sg} {C : Cc} {X : Cx}
/-! ### items and slices -/
/-- a slice's bound, as a value: left out, or an int -/
def rPart : V → Hp → VK → Prop := fun x H Q => (x = .non ∨ ∃ i, x = .int i) ∧ Q x H
theorem pr_part : PrimR G .part (r1L rPart) := by
  intro W ds vs d H Q hl ht hpr hq
  simp only [prim] at hpr
  unfold pPart at hpr
  split at hpr
  · cases hpr
    obtain ⟨x, rfl⟩ := one_of hl
    obtain ⟨_, t1⟩ := ht 0 _ x rfl rfl
    cases t1
    exact ⟨_, rfl, .inl rfl, hq _ H (fun _ => False) (Same.refl _) .non fun _ z => z.elim⟩
  · cases hpr
    obtain ⟨x, rfl⟩ := one_of hl
    obtain ⟨_, t1⟩ := ht 0 _ x rfl rfl
    rw [t1.intV]
    exact ⟨_, rfl, .inr ⟨_, rfl⟩, hq _ H (fun _ => False) (Same.refl _) .int fun _ z => z.elim⟩
  · cases hpr
def lOf : V → Option Int
  | .int i => some i
  | _ => none
theorem pOf_l {y : V} {l : Option Int} (h : pOf y l) : l = lOf y := by
  cases l with
  | none => have h : y = .non := h; subst h; rfl
  | some i => have h : y = .int i := h; subst h; rfl
def tPo (G : Sg) (A : E) : TO := fun σ H Q => tE G A σ H fun y H1 => Q (lOf y) H1
theorem cPart_ok (ok : OkX G C X) {rec : Expr → E} (hr : RecOk G C X rec) (o : Option Expr) : PO X o (tPo G (cPart rec C o)) := by
  cases o with
  | none => exact ⟨fun pins s σ H Q I h => po_none.run pins s σ H Q I (tE_lit (d := .non) (v := .non) (fun _ _ _ => .non) h)⟩
  | some e =>
    refine ⟨fun pins s σ H Q I h => ?_⟩
    rw [evalPart_some]
    refine thn ((cArg_ok ok hr e).run pins s σ H _ I (op1 pr_part h)) fun u s1 ⟨y, H1, I1, r1, hy, q⟩ => ?_
    rcases hy with rfl | ⟨i, rfl⟩
    · obtain rfl : u = Value.none := r1
      exact ⟨none, H1, I1, .none, q⟩
    · obtain ⟨t, rfl⟩ := r1
      exact ⟨some i, H1, I1, .int i t, q⟩
theorem cPart_nb {rec : Expr → E} (o : Option Expr) : isBor (cPart rec C o) = false := by cases o <;> rfl
theorem vals_pick {xs : List V} {its : List Value} (r : Vals xs its) : ∀ is : List Nat, Vals (is.filterMap fun i => xs[i]?) (is.filterMap fun i => its[i]?)
  | [] => .nil
  | i :: is => by
    have ih := vals_pick r is
    cases hx : xs[i]? with
    | none =>
      have hd : its[i]? = none := r.none_of hx
      rw [List.filterMap_cons_none (by exact hx), List.filterMap_cons_none (by exact hd)]
      exact ih
    | some x =>
      obtain ⟨u, hu, ru⟩ := r.get hx
      rw [List.filterMap_cons_some (by exact hx), List.filterMap_cons_some (by exact hu)]
      exact .cons ru ih
theorem slicePick_pickL (its : List Value) (lo hi st : Option Int) : slicePick its.toArray lo hi st = (pickL its lo hi st).toArray := by
  unfold slicePick pickL
  rw [List.size_toArray]
  congr 1
  refine congrArg (fun f => List.filterMap f _) (funext fun x => ?_)
  rw [List.getElem?_toArray]
def tSls (r : V → Option Int → Option Int → Option Int → Hp → VK → Prop) (te : TE) (tl th tt : TO) : TE := fun σ H Q => te σ H fun x H1 => tl σ H1 fun l H2 => th σ H2 fun u H3 => tt σ H3 fun v H4 => r x l u v H4 Q
theorem pe_sls {e : Expr} {lo hi : Option Expr} {st : Expr} {te : TE} {tl th tt : TO} {pos p2 : Pos} (he : PE X e te) (hl : PO X lo tl) (hu : PO X hi th) (hst : PO X (some st) tt) : PE X (.Subscript e (.Slice lo hi (some st) p2) pos) (tSls (rSlsL X.K) te tl th tt) := by
  refine ⟨fun pins s σ H Q I h => ?_⟩
  refine Subscript_ (thn (he.run pins s σ H _ I h) fun v s1 ⟨x, H1, I1, r1, q1⟩ => ?_)
  refine wpAny_Slice (thn (hl.run pins s1 σ H1 _ I1 q1) fun vl s2 ⟨l, H2, I2, pl, q2⟩ => ?_)
  refine thn (hu.run pins s2 σ H2 _ I2 q2) fun vu s3 ⟨u, H3, I3, pu, q3⟩ => ?_
  refine thn (hst.run pins s3 σ H3 _ I3 q3) fun vs s4 ⟨o, H4, I4, ps, q4⟩ => ?_
  obtain ⟨a, xs, ex, hx, h0, q⟩ := q4
  subst ex
  cases r1
  have I5 : Inv X pins σ H4 { s4 with heap := s4.heap.push { cls := .type "slice", data := .fields #[vl, vu, vs] } } := I4.kept (t' := s4.toks) fun b ob q => Heap.get?_push_of_some _ q
  obtain ⟨its, r, ht, hz⟩ := I5.list hx
  have hlen := r.length
  show wpAny (model X.prog X.w) X.A (subscriptTail e (.Slice lo hi (some st) p2) (.ref a) (.ref s4.heap.objs.size)) (EP X pins σ Q) X.xe { s4 with heap := s4.heap.push { cls := .type "slice", data := .fields #[vl, vu, vs] } }
  refine tail_any (ops := [.ref a, .ref s4.heap.objs.size]) ht.isList.typeIs (PySem.slot_list_getitem.lookup) ?_ (by with_unfolding_all rfl)
  refine wpAny_getItem_list_slice ht.isList (Heap.IsSliceOf.new _ vl vu vs) pl pu ps h0 ?_ (by rw [List.size_toArray]; omega)
  have hv : Vals (pickL xs l u o) (pickL its l u o) := by
    unfold pickL
    rw [hlen]
    exact vals_pick r _
  have hle : (pickL xs l u o).length ≤ xs.length := by
    have h1 := slicePick_size_le its.toArray l u o
    rw [slicePick_pickL, List.size_toArray, List.size_toArray] at h1
    rw [hv.length, hlen]
    exact h1
  rw [slicePick_pickL]
  refine ⟨.ref _, _, I5.laid (t' := s4.toks) (o := .lst (pickL xs l u o)) (fun b ob q => Heap.get?_push_of_some _ q) (Nat.le_refl _) ?_, rfl, q _ (I5.hok.fresh (Nat.le_refl _))⟩
  exact ⟨Nat.le_trans hle hz, _, 0, hv, Heap.get?_push_size _ rfl⟩
theorem cSub_ok (ok : OkX G C X) {rec : Expr → E} (hr : RecOk G C X rec) (a i : Expr) (pos : Pos) : PE X (.Subscript a i pos) (tE G (cSub rec C a i)) := by
  unfold cSub
  split
  · rename_i lo hi st p
    split
    · refine weakE (pe_slice (r := rSlL X.K) sl_list (cArg_ok ok hr a) (cPart_ok ok hr lo) (cPart_ok ok hr hi)) fun σ H Q h => ?_
      refine tO_mono (tA_cons (tE_op pr_sl h)) fun x H1 h1 => ?_
      have h2 := tA_cons h1
      rw [tO_ne (cPart_nb lo)] at h2
      refine tE_mono h2 fun y H2 h3 => ?_
      have h4 := tA_cons h3
      rw [tO_ne (cPart_nb hi)] at h4
      refine tE_mono h4 fun z H3 h5 => ?_
      obtain ⟨x', y', z', lo', hi', e, p1, p2, q⟩ := tA_nil h5
      cases e
      rw [pOf_l p1, pOf_l p2, ← ok.K] at q
      exact q
    · split
      · rename_i hc
        simp only [Bool.and_eq_true, beq_iff_eq, Option.isNone_iff_eq_none] at hc
        obtain ⟨⟨rfl, rfl⟩, rfl⟩ := hc
        refine weakE (pe_revL (cArg_ok ok hr a)) fun σ H Q h => ?_
        refine tO_mono (op1 pr_rev h) fun x H1 q => ?_
        rw [ok.K]; exact q
      · exact pe_bad _ _
    · refine weakE (pe_sls (cArg_ok ok hr a) (cPart_ok ok hr lo) (cPart_ok ok hr hi) (cPart_ok ok hr (some _))) fun σ H Q h => ?_
      refine tO_mono (tA_cons (tE_op pr_sls h)) fun x H1 h1 => ?_
      have h2 := tA_cons h1
      rw [tO_ne (cPart_nb lo)] at h2
      refine tE_mono h2 fun y H2 h3 => ?_
      have h4 := tA_cons h3
      rw [tO_ne (cPart_nb hi)] at h4
      refine tE_mono h4 fun z H3 h5 => ?_
      have h6 := tA_cons h5
      rw [tO_ne (cPart_nb (some _))] at h6
      refine tE_mono h6 fun w H4 h7 => ?_
      obtain ⟨x', y', z', w', lo', hi', st', e, p1, p2, p3, q⟩ := tA_nil h7
      cases e
      rw [pOf_l p1, pOf_l p2, pOf_l p3, ← ok.K] at q
      exact q
  · rename_i hns
    split
    · rename_i s hs
      have hu : X.A.units + 1 < cLine := by have := ok.un; omega
      refine weakE (pe_dget hu (dnSlot_ok ok hs) (hr.pe i) fun o v => ?_) fun σ H Q h => tE_dget h
      unfold subscripted
      cases i <;> first | rfl | (exact absurd rfl (hns _ _ _ _))
    · refine weakE (pe_ix (r := rIxA X.K) ix_A (cArg_ok ok hr a) (cArg_ok ok hr i) fun o v => ?_) fun σ H Q h => ?_
      · unfold subscripted
        cases i <;> first | rfl | (exact absurd rfl (hns _ _ _ _))
      · rw [ok.K]; exact op2 pr_ix h
/-! ### methods, walks, targets -/
theorem beq_str {x y : Str} (h : (x == y) = true) : x = y := beq_iff_eq.mp h
theorem cMeth_ok (ok : OkX G C X) {rec : Expr → E} (hr : RecOk G C X rec) {o : Expr} {m : Str} {apos cpos : Pos} {args : List Expr} : PE X (.Call (.Attribute o m apos) args [] cpos) (tE G (cMeth rec C o m apos args cpos)) := by
  unfold cMeth
  split
  · rename_i x p
    split
    · rename_i i hi
      split
      · rename_i hc
        simp only [Bool.and_eq_true] at hc
        obtain ⟨hline, hm⟩ := hc
        obtain rfl := beq_str hm
        have ho := slot_ok ok hi (pos := p)
        split
        · refine weakE (pe_bm0 PySem.F.plainAttrs_list PySem.F.slot_list_pop PySem.F.type_list_pop mt_pop ho rfl hline) fun σ H Q h => ?_
          rw [ok.K]; exact tE_pop0 h
        · rename_i a
          split
          · rename_i hn
            refine weakE (pe_bm PySem.F.plainAttrs_list PySem.F.slot_list_pop PySem.F.type_list_pop mt_popAt ho (cArgs_ok ok hr [a]) rfl ?_ hline (nst_star hn) (nst_all rfl)) fun σ H Q h => ?_
            · rw [nst_star hn]; rfl
            · rw [ok.K]; exact tE_pop h
          · exact pe_bad _ _
        · exact pe_bad _ _
      · exact pe_bad _ _
    · exact pe_bad _ _
  · exact pe_bad _ _
/-- for x in a list or a tuple that an expression gives -/
theorem pi_seq {tg l : Expr} {tl : TE} (hl : PE X l tl) : PI X tg l (iSeq X.K tl) := by
  constructor
  intro pins s σ H R I h
  refine thn (hl.run pins s σ H _ I h) ?_
  rintro v s1 ⟨x, H1, I1, r1, a, rfl, ⟨⟨xs, hq⟩, q⟩ | ⟨⟨xs, hq⟩, q⟩⟩
  · cases r1
    have hsq : SqL X.K H1 a xs := SqL.of hq
    obtain ⟨its, _, ls, _⟩ := I1.list hsq
    have J : ∀ o, Inv X pins σ H1 { s1 with heap := s1.heap.push o } := fun o => I1.kept (t' := s1.toks) fun b q z => Heap.get?_push_of_some _ z
    apply wpAny_pyIter_list ls.isList
    refine ⟨_, [s1.heap.objs.size], _, _, H1, rfl, J _, turn_list a _, ⟨_, Heap.get?_push_size _ rfl, rfl, rfl⟩, ?_, q⟩
    intro b hb
    rw [List.mem_singleton.mp hb]
    exact I1.fpOk (Nat.le_refl _) (I1.hok.fresh (Nat.le_refl _))
  · cases r1
    have hsq : SqT X.K H1 a xs := SqT.of hq
    obtain ⟨its, _, ls, _⟩ := I1.tuple hsq
    have J : ∀ o, Inv X pins σ H1 { s1 with heap := s1.heap.push o } := fun o => I1.kept (t' := s1.toks) fun b q z => Heap.get?_push_of_some _ z
    have lt : s1.heap.IsTuple a its.toArray := ls
    apply wpAny_pyIter_tuple lt
    refine ⟨_, [s1.heap.objs.size], _, _, H1, rfl, J _, turn_tuple a _, ⟨_, Heap.get?_push_size _ rfl, rfl, rfl⟩, ?_, q⟩
    intro b hb
    rw [List.mem_singleton.mp hb]
    exact I1.fpOk (Nat.le_refl _) (I1.hok.fresh (Nat.le_refl _))
theorem folded_ok {e : Expr} (h : notSet e = true) (env : PySem.Env) (v : Value) : foldedSetIterable e env v = pure v := by
  cases e <;> first | rfl | (simp [notSet] at h)
theorem pi_bad (X : Cx) (tg e : Expr) (k : IK) (es : E) : PI X tg e (tI G k (.cons .nil es)) := ⟨fun pins s σ H R I h => by
  obtain ⟨W0, Os, env, e, r⟩ := h
  exact r.elim⟩
theorem isTup_eq {tg : Expr} (h : isTup tg = true) : ∃ es k p, tg = .Tuple es k p := by
  unfold isTup at h
  split at h
  · exact ⟨_, _, _, rfl⟩
  · cases h
theorem cIt_ok (ok : OkX G C X) {rec : Expr → E} (hr : RecOk G C X rec) (tg e : Expr) : PI X tg e (tI G (cIt rec C tg e).1 (cIt rec C tg e).2) ∧ ((cIt rec C tg e).2 ≠ .cons .nil .nil → ∀ env v, foldedSetIterable e env v = pure v) := by
  have dfl : ∀ e, PI X tg e (tI G .seq (.cons (rec e) .nil)) := fun e => ⟨fun pins s σ H R I h => (pi_seq (hr.pe e)).run pins s σ H R I (by rw [ok.K]; exact tI_seq h)⟩
  have cf : ∀ (f : Expr) (as : List Expr) (ks : List Keyword) (q : Pos), ∀ env v, foldedSetIterable (.Call f as ks q) env v = pure v := fun _ _ _ _ _ _ => rfl
  unfold cIt
  split
  · rename_i x p args pos
    split
    · rename_i hc
      simp only [Bool.and_eq_true] at hc
      obtain ⟨⟨⟨hB, _⟩, _⟩, hn⟩ := hc
      obtain ⟨h1, h2, h3, h4⟩ := isB_ok ok hB
      split
      · rename_i hx
        obtain rfl := beq_str hx
        split
        · simp only [List.all_cons, Bool.and_eq_true] at hn
          refine ⟨⟨fun pins s σ H R I h => (pi_range1 h1 h3 (cLst_ok hr _) (nst_star hn.1)).run pins s σ H R I (tI_rng1 h)⟩, fun _ => cf _ _ _ _⟩
        · simp only [List.all_cons, Bool.and_eq_true] at hn
          refine ⟨⟨fun pins s σ H R I h => (pi_range2 h1 h3 (cLst_ok hr _) (by rw [nst_star hn.1, nst_star hn.2.1]; rfl) (nst_star hn.2.1)).run pins s σ H R I (tI_rng2 h)⟩, fun _ => cf _ _ _ _⟩
        · simp only [List.all_cons, Bool.and_eq_true] at hn
          refine ⟨⟨fun pins s σ H R I h => (pi_range3 h1 h3 (cLst_ok hr _) (nst_star hn.1) (nst_all (by simp [hn.2.1, hn.2.2.1]))).run pins s σ H R I (tI_rng3 h)⟩, fun _ => cf _ _ _ _⟩
        · exact ⟨pi_bad _ _ _ _ _, fun _ => cf _ _ _ _⟩
      · split
        · rename_i hx
          simp only [Bool.and_eq_true] at hx
          obtain rfl := beq_str hx.1
          obtain ⟨tes, tk, tp, rfl⟩ := isTup_eq hx.2
          split
          · simp only [List.all_cons, Bool.and_eq_true] at hn
            refine ⟨⟨fun pins s σ H R I h => (pi_enum h1 h3 (cLst_ok hr _) (nst_star hn.1)).run pins s σ H R I (by rw [ok.K]; exact tI_enum h)⟩, fun _ => cf _ _ _ _⟩
          · exact ⟨pi_bad _ _ _ _ _, fun _ => cf _ _ _ _⟩
        · split
          · rename_i hx
            simp only [Bool.and_eq_true] at hx
            obtain rfl := beq_str hx.1
            obtain ⟨tes, tk, tp, rfl⟩ := isTup_eq hx.2
            split
            · simp only [List.all_cons, Bool.and_eq_true] at hn
              refine ⟨⟨fun pins s σ H R I h => (pi_zip h1 h3 (cLst_ok hr _) (nst_star hn.1) (nst_all (by simp [hn.2.1]))).run pins s σ H R I (by rw [ok.K]; exact tI_zip h)⟩, fun _ => cf _ _ _ _⟩
            · exact ⟨pi_bad _ _ _ _ _, fun _ => cf _ _ _ _⟩
          · exact ⟨dfl _, fun _ => cf _ _ _ _⟩
    · exact ⟨dfl _, fun _ => cf _ _ _ _⟩
  · split
    · rename_i hs
      exact ⟨dfl _, fun _ => folded_ok hs⟩
    · exact ⟨pi_bad _ _ _ _ _, fun h => absurd rfl h⟩
theorem assignEach_names {env : PySem.Env} {x : Str} {p : Pos} {es : List Expr} : assignEach (.Name x p :: es) env = (false, assign (.Name x p) env) :: assignEach es env := rfl
theorem cTs_ok (ok : OkX G C X) : ∀ {es : List Expr} {is : List Nat}, cTs C es = some is → PGs X es (gNs is) ∧ is.length = es.length ∧ (∀ env : PySem.Env, (assignEach es env).length = es.length ∧ (assignEach es env).findIdx? (·.1) = none)
  | [], is, h => by cases h; exact ⟨pgs_nil, rfl, fun _ => ⟨rfl, rfl⟩⟩
  | e :: es, is, h => by
    cases e with
    | Name x p =>
      have h : ((C.dst x).bind fun i => (cTs C es).map (i :: ·)) = some is := h
      cases e1 : C.dst x with
      | none => rw [e1] at h; cases h
      | some i =>
        rw [e1] at h
        have h : (cTs C es).map (i :: ·) = some is := h
        cases e2 : cTs C es with
        | none => rw [e2] at h; cases h
        | some js =>
          rw [e2] at h; cases h
          obtain ⟨h1, h2, h3⟩ := cTs_ok ok e2
          obtain ⟨d1, d2, d3, d4⟩ := dst_ok ok e1
          refine ⟨pgs_cons (pg_name d1 d2 d3 d4) h1, by simp [h2], fun env => ?_⟩
          obtain ⟨a, b⟩ := h3 env
          rw [assignEach_names]
          refine ⟨by simp [a], ?_⟩
          rw [List.findIdx?_cons]
          simp [b]
    | _ => cases h
theorem cTg_ok (ok : OkX G C X) {tg : Expr} {ts : List Nat} (h : cTg C tg = some ts) : PG X tg (tgR G.K ts) := by
  unfold cTg at h
  split at h
  · rename_i x p
    cases e1 : C.dst x with
    | none => rw [e1] at h; cases h
    | some i =>
      rw [e1] at h; cases h
      obtain ⟨d1, d2, d3, d4⟩ := dst_ok ok e1
      exact pg_name d1 d2 d3 d4
  · rename_i es k p
    cases e1 : cTs C es with
    | none => rw [e1] at h; cases h
    | some is =>
      rw [e1] at h
      have h : (if decide (is.length ≠ 1) = true then some is else none) = some ts := h
      split at h
      · rename_i hl
        cases h
        have hl := of_decide_eq_true hl
        obtain ⟨h1, h2, h3⟩ := cTs_ok ok e1
        obtain ⟨a, b⟩ := h3 X.env
        have e : tgR G.K ts = gTup G.K ts.length (gNs ts) := by
          unfold tgR
          split
          · exact absurd rfl hl
          · rfl
        rw [e, ← ok.K]
        exact pg_tup ok.calm h1 (by rw [a, h2]) b
      · cases h
  · cases h
end
end KS
set_option linter.all false
set_option autoImplicit false
set_option maxRecDepth 100000
namespace KS
open PySem PySem.Spec PyProof.Rows L2
section
variable {G : Sg} {C : Cc} {X : Cx}
theorem own_snd (N : List Str) (is : List Nat) : (ownOf N is).map (·.2) = is := by
  unfold ownOf; rw [List.map_map]; exact List.map_id _
/-- within a comprehension's block -/
theorem OkX.blk (ok : OkX G C X) {scope : Scope} {own : List (Str × Nat)} (b : BlkOk C.N C.sc scope own) (s : Shared) (H : Hp) (A : Addr) (cl : List (Str × Addr)) (fp : List Addr) : OkX G.nox (C.blk scope) (X.blk s H scope (compEnvC scope cl A X.env) fp) where
  K := ok.K
  N := ok.N
  nd := ok.nd
  sc := by show relS scope X.env.scope = relS scope C.sc; rw [ok.sc]
  knd := b.kind
  fn := fun x h => h
  calm := ok.calm
  gu := ok.gu
  un := ok.un
  ps := passL
  fns := fun x fe h => ok.fns x fe h
  cs := ok.cs
  bl := ok.bl
theorem cIfs_ok {rec : Expr → E} (hr : ∀ e, PT X e (tT G (rec e))) (ifs : List Expr) : PTs X ifs (tT G (cIfs rec ifs)) := by
  match ifs with
  | [] =>
    refine ⟨fun pins s σ H Q I h => pts_nil.run pins s σ H Q I ?_⟩
    obtain ⟨c, e, q⟩ := tE_lit (d := .bl true) (v := .bl true) (fun _ _ _ => .bl) h
    cases e
    exact q
  | [c] => exact pts_one (hr c)
  | _ :: _ :: _ => exact ⟨fun _ _ _ _ _ _ h => (tE_nil h).elim⟩
/-- what holds of the recursive calls, in every context -/
structure RecAll (recC : Cc → Expr → E) (tst : Cc → Expr → E) : Prop where
  pe : ∀ {G : Sg} {C : Cc} {X : Cx}, OkX G C X → RecOk G C X (recC C)
  pt : ∀ {G : Sg} {C : Cc} {X : Cx}, OkX G C X → ∀ e, PT X e (tT G (tst C e))
  nb : ∀ (C : Cc) (e : Expr), isBor (recC C e) = false
  nt : ∀ (C : Cc) (e : Expr), isBor (tst C e) = false
def SetOk (G : Sg) (X : Cx) (e : Expr) (A : E) : Prop := PE X e (tE G A) ∧ ∀ (i : Nat) (y : Str) (py spos : Pos), X.N[i]? = some y → X.env.scope.names.lookup y = some .local → swapsWith e (some (.Name y py)) spos.line X.env = pure true → PS X (.Assign [.Name y py] e spos) (tAsg (tE G A) (gName i))
theorem setOk_bad (G : Sg) (X : Cx) (e : Expr) : SetOk G X e .nil := ⟨pe_bad _ _, fun _ _ _ _ _ _ _ => ⟨fun _ _ _ _ _ _ h => (tE_nil (G := G) h).elim⟩⟩
theorem tE_dead {A : E} {σ : L2.St} {H : Hp} {Q : VK} (hd : ∀ env, evE G.C A env = .bad) (h : tE G A σ H Q) : False := by
  obtain ⟨W0, Os, env, e, r⟩ := h
  rw [hd] at r
  exact r
theorem cComp_ok {recC tst : Cc → Expr → E} (ra : RecAll recC tst) (ok : OkX G C X) (elt : Expr) (gens : List Comprehension) (scope : Scope) (pos : Pos) : SetOk G X (.ListComp elt gens scope pos) (cComp recC tst C elt gens scope) := by
  have nd : X.N.Nodup := by rw [ok.N]; exact ok.nd
  unfold cComp
  split
  · rename_i tg iter ifs
    split
    · rename_i ts hts
      split
      · rename_i hb
        have b := blkOk_by hb
        have b' : BlkOk X.N X.env.scope scope (ownOf C.N ts) := by rw [ok.N, ok.sc]; exact b
        split
        · rename_i s hs
          have hN : ∃ x p, iter = .Name x p := by
            unfold dnSlot at hs
            split at hs
            · exact ⟨_, _, rfl⟩
            · cases hs
          obtain ⟨nx, np, rfl⟩ := hN
          have i1 : PI X tg (.Name nx np) (iKeys (tVar s)) := pi_keys (dnSlot_ok ok hs)
          have hg := fun s H A cl fp => cTg_ok (ok.blk b s H A cl fp) hts
          have ht := fun s H A cl fp => cIfs_ok (ra.pt (ok.blk b s H A cl fp)) ifs
          have he := fun s H A cl fp => (ra.pe (ok.blk b s H A cl fp)).pe elt
          have p1 := pe_lc (pos := pos) ok.calm nd i1 b' hg ht he fun x => rfl
          refine ⟨⟨fun pins s σ H Q I h => ?_⟩, fun i y py spos hy hyl hsw => ⟨fun pins s σ H Dn I h => ?_⟩⟩
          · have h := tE_compK h
            rw [own_snd] at p1
            rcases h with h | h
            · exact p1.run pins s σ H Q I h
            · exact (pe_lock p1).run pins s σ H Q I h
          · have p2 := ps_setLc (py := py) (pos := pos) ok.calm nd hy hyl hsw i1 b' hg ht he fun x => rfl
            rw [own_snd] at p2
            have h : tAsg (tE G (.compK (recC (C.blk scope) elt) ts _ (cIfs (tst (C.blk scope)) ifs))) (gName i) Dn σ H := h
            rcases tE_compK h with h | h
            · exact p2.run pins s σ H Dn I h
            · obtain ⟨a, u, h1, h2, h3⟩ := h
              refine (ps_lock p2).run pins s σ H Dn I ⟨a, u, h1, h2, fun od => ?_⟩
              exact h3 od
        obtain ⟨i1, i2⟩ := cIt_ok ok (ra.pe ok) tg iter
        generalize hk : (cIt (recC C) C tg iter).1 = k at i1 ⊢
        generalize hes : (cIt (recC C) C tg iter).2 = es at i1 i2 ⊢
        by_cases hd : es = .cons .nil .nil
        · subst hd
          exact ⟨⟨fun _ _ _ _ _ _ h => (tE_dead (fun _ => rfl) h).elim⟩, fun _ _ _ _ _ _ _ => ⟨fun _ _ _ _ _ _ h => (tE_dead (G := G) (fun _ => rfl) h).elim⟩⟩
        · have hg := fun s H A cl fp => cTg_ok (ok.blk b s H A cl fp) hts
          have ht := fun s H A cl fp => cIfs_ok (ra.pt (ok.blk b s H A cl fp)) ifs
          have he := fun s H A cl fp => (ra.pe (ok.blk b s H A cl fp)).pe elt
          refine ⟨weakE (pe_lc ok.calm nd i1 b' hg ht he fun x => i2 hd _ _) fun σ H Q h => ?_, fun i y py spos hy hyl hsw => weakS (ps_setLc ok.calm nd hy hyl hsw i1 b' hg ht he fun x => i2 hd _ _) fun Dn σ H h => ?_⟩
          · rw [own_snd]; exact tE_comp h
          · rw [own_snd]; exact tE_comp (G := G) h
      · exact setOk_bad _ _ _
    · exact setOk_bad _ _ _
  · rename_i tg iter tg1 iter1 ifs1
    split
    · rename_i ts us hts hus
      split
      · rename_i hb
        simp only [Bool.and_eq_true] at hb
        obtain ⟨hb, hd1⟩ := hb
        have b := blkOk_by hb
        have b' : BlkOk X.N X.env.scope scope (ownOf C.N (ts ++ us)) := by rw [ok.N, ok.sc]; exact b
        obtain ⟨i1, i2⟩ := cIt_ok ok (ra.pe ok) tg iter
        have j1 := fun s H A cl fp => (cIt_ok (ok.blk b s H A cl fp) (ra.pe (ok.blk b s H A cl fp)) tg1 iter1).1
        have j2 := fun s H A cl fp => (cIt_ok (ok.blk b s H A cl fp) (ra.pe (ok.blk b s H A cl fp)) tg1 iter1).2
        generalize hk : (cIt (recC C) C tg iter).1 = k at i1 ⊢
        generalize hes : (cIt (recC C) C tg iter).2 = es at i1 i2 ⊢
        generalize hl : (cIt (recC (C.blk scope)) (C.blk scope) tg1 iter1).1 = l at j1 ⊢
        generalize hfs : (cIt (recC (C.blk scope)) (C.blk scope) tg1 iter1).2 = fs at j1 j2 ⊢
        by_cases hd : es = .cons .nil .nil
        · subst hd
          exact ⟨⟨fun _ _ _ _ _ _ h => (tE_dead (fun _ => rfl) h).elim⟩, fun _ _ _ _ _ _ _ => ⟨fun _ _ _ _ _ _ h => (tE_dead (G := G) (fun _ => rfl) h).elim⟩⟩
        · have hg := fun s H A cl fp => cTg_ok (ok.blk b s H A cl fp) hts
          have hg1 := fun s H A cl fp => cTg_ok (ok.blk b s H A cl fp) hus
          have ht := fun (s : Shared) (H : Hp) (A : Addr) (cl : List (Str × Addr)) (fp : List Addr) => pts_nil (X := X.blk s H scope (compEnvC scope cl A X.env) fp)
          have ht1 := fun s H A cl fp => cIfs_ok (ra.pt (ok.blk b s H A cl fp)) ifs1
          have he := fun s H A cl fp => (ra.pe (ok.blk b s H A cl fp)).pe elt
          have hv : ∀ i ∈ us, i ∈ (ownOf C.N (ts ++ us)).map (·.2) := fun i hi => by rw [own_snd]; exact List.mem_append_right _ hi
          refine ⟨weakE (pe_lc2 ok.calm nd i1 b' hv hg ht j1 hg1 ht1 he (fun x => i2 hd _ _) fun env x => folded_ok hd1 env x) fun σ H Q h => ?_, fun i y py spos hy hyl hsw => weakS (ps_setLc2 ok.calm nd hy hyl hsw i1 b' hv hg ht j1 hg1 ht1 he (fun x => i2 hd _ _) fun env x => folded_ok hd1 env x) fun Dn σ H h => ?_⟩
          · rw [own_snd]; exact tE_comp2 h
          · rw [own_snd]; exact tE_comp2 (G := G) h
      · exact setOk_bad _ _ _
    · exact setOk_bad _ _ _
  · exact setOk_bad _ _ _
theorem cDict_ok {rec : Expr → E} (hr : ∀ e, PE X e (tE G (rec e))) (ks : List (Option Expr)) (vs : List Expr) (pos : Pos) : PE X (.Dict ks vs pos) (tE G (cDict rec ks vs)) := by
  unfold cDict
  split
  · rename_i k kk kp v
    refine weakE (pe_disp (pps_cons (pe_int (i := k)) (hr v) pps_nil) rfl rfl (by simp) (by show 1 ≤ 15; decide)) fun σ H Q h p hp => ?_
    refine tE_mono (tE_dsp h p hp) fun y H2 ⟨h1, h2⟩ => ?_
    exact ⟨h1, [(.inl k, y)], rfl, by show 1 ≤ 15; decide, h2⟩
  · exact pe_bad _ _
/-! ### all expressions -/
theorem cBool_nb {rec : Expr → E} (hr : ∀ e, isBor (rec e) = false) (op : BoolOp) : ∀ vs, isBor (cBool rec op vs) = false
  | [] => rfl
  | [a] => hr a
  | a :: b :: r => by cases op <;> rfl
theorem cCmp_nb {rec : Expr → E} (a : Expr) (ops : List CmpOp) (bs : List Expr) : isBor (cCmp rec C a ops bs) = false := by
  unfold cCmp
  repeat' split
  all_goals rfl
theorem cCall_nb {rec : Expr → E} (x : Str) (args : List Expr) (kws : List Keyword) : isBor (cCall rec C x args kws) = false := by
  unfold cCall
  repeat' split
  all_goals rfl
theorem cMeth_nb {rec : Expr → E} (o : Expr) (m : Str) (apos : Pos) (args : List Expr) (cpos : Pos) : isBor (cMeth rec C o m apos args cpos) = false := by
  unfold cMeth
  repeat' split
  all_goals rfl
theorem cSub_nb {rec : Expr → E} (a i : Expr) : isBor (cSub rec C a i) = false := by
  unfold cSub
  repeat' split
  all_goals rfl
theorem cComp_nb {recC tst : Cc → Expr → E} (elt : Expr) (gens : List Comprehension) (scope : Scope) : isBor (cComp recC tst C elt gens scope) = false := by
  unfold cComp
  repeat' split
  all_goals rfl
theorem litD_ok {c : Const} {d : D} (h : litD c = some d) {k : Nat} {pos : Pos} : PE X (.Constant c k pos) (tE G (.lit d)) := by
  unfold litD at h
  split at h <;> cases h
  · exact weakE pe_non fun σ H Q h => tE_lit (v := .non) (fun _ _ _ => .non) h
  · exact weakE pe_bl fun σ H Q h => tE_lit (fun _ _ _ => .bl) h
  · exact weakE pe_int fun σ H Q h => tE_lit (fun _ _ _ => .int) h
  · exact weakE pe_str fun σ H Q h => tE_lit (fun _ _ _ => .str) h
theorem plain_ok {e : Expr} (h : plainTest e = true) {A : E} (hp : PE X e (tE G A)) : PT X e (tT G A) := by
  refine pt_val hp fun whole => ?_
  cases e <;> first | rfl | (simp [plainTest] at h; done) | skip
  rename_i op _ _
  cases op <;> first | rfl | (simp [plainTest] at h; done)
theorem cE_ok : ∀ n, RecAll (cE n) (cT n)
  | 0 => ⟨fun ok => ⟨fun e => pe_bad _ _, fun e => rfl⟩, fun ok e => ⟨fun _ _ _ _ _ _ h => (tE_nil h).elim⟩, fun _ _ => rfl, fun _ _ => rfl⟩
  | n + 1 => by
    have ih := cE_ok n
    have hnb : ∀ (C : Cc) (e : Expr), isBor (cE (n + 1) C e) = false := by
      intro C e
      unfold cE
      split
      · split <;> rfl
      · split
        · rfl
        · split
          · split <;> rfl
          · rfl
      · split <;> rfl
      · split <;> rfl
      · exact cBool_nb (ih.nb C) _ _
      · rfl
      · exact cCmp_nb _ _ _
      · split
        · unfold cCallF
          split
          · exact cCall_nb _ _ _
          · exact cMeth_nb _ _ _ _ _
          · rfl
        · rfl
      · exact cSub_nb _ _
      · rfl
      · rfl
      · exact cComp_nb _ _ _
      · unfold cDict; split <;> rfl
      · rfl
    have hpe : ∀ {G : Sg} {C : Cc} {X : Cx}, OkX G C X → RecOk G C X (cE (n + 1) C) := by
      intro G C X ok
      have hr := ih.pe ok
      refine ⟨fun e => ?_, hnb C⟩
      · unfold cE
        split
        · split
          · rename_i h; exact litD_ok h
          · exact pe_bad _ _
        · split
          · rename_i h; exact weakE (slot_ok ok h) fun σ H Q q => tE_var q
          · split
            · rename_i hg
              obtain ⟨g1, g2⟩ := gl_ok ok hg
              split
              · rename_i hc
                obtain ⟨u, hm, r⟩ := ok.cs _ _ hc
                exact weakE (pe_glob g1 hm r g2) fun σ H Q h => tE_lit (fun _ _ _ => .int) h
              · exact pe_bad _ _
            · exact pe_bad _ _
        · split
          · rename_i hp
            obtain ⟨r, h1, h2⟩ := opP_ok ok hp
            exact weakE (pe_op h1 (cArg_ok ok hr _) (cArg_ok ok hr _)) fun σ H Q h => op2 h2 h
          · exact pe_bad _ _
        · split
          · exact weakE (pe_not (cArg_ok ok hr _)) fun σ H Q h => op1 pr_not h
          · exact weakE (pe_un un_neg (cArg_ok ok hr _)) fun σ H Q h => op1 (pr_i1 (fun _ => rfl) fun _ _ _ _ => .int) h
          · exact pe_bad _ _
        · exact cBool_ok hr.pe _ _ _
        · exact weakE (pe_ifExp (ih.pt ok _) (hr.pe _) (hr.pe _)) fun σ H Q h => tE_ife h
        · exact (cCmp_ok ok hr _ _ _ _).1
        · split
          · rename_i hn
            unfold cCallF
            split
            · exact cCall_ok ok hr hn
            · exact cMeth_ok ok hr
            · exact pe_bad _ _
          · exact pe_bad _ _
        · exact cSub_ok ok hr _ _ _
        · exact weakE (pe_lst (cLst_ok hr _)) fun σ H Q h => tE_lst h
        · exact weakE (pe_tup (cLst_ok hr _)) fun σ H Q h => tE_tup h
        · exact (cComp_ok ih ok _ _ _ _).1
        · exact cDict_ok hr.pe _ _ _
        · exact pe_bad _ _
    have hnt : ∀ (C : Cc) (e : Expr), isBor (cT (n + 1) C e) = false := by
      intro C e
      unfold cT
      split
      · rfl
      · exact cBool_nb (ih.nt C) _ _
      · exact cCmp_nb _ _ _
      · rfl
      · exact ih.nb C _
    refine ⟨hpe, ?_, hnb, hnt⟩
    intro G C X ok e
    have hr := ih.pe ok
    unfold cT
    split
    · refine weakT (pt_not (ih.pt ok _)) fun σ H Q h => ?_
      have q := op1 pr_not h
      rw [tO_ne (ih.nt C _)] at q
      refine tE_mono q fun x H1 ⟨c, e1, c', e2, q⟩ => ⟨c, e1, ?_⟩
      cases e2
      exact q
    · exact ⟨fun pins s σ H Q I h => (cBoolT_ok (fun e => ih.pt ok e) _ _ _).run _ pins s σ H Q I h⟩
    · exact (cCmp_ok ok hr _ _ _ _).2
    · exact ⟨fun _ _ _ _ _ _ h => (tE_nil h).elim⟩
    · rename_i h1 h2 h3 h4
      refine plain_ok ?_ (hr.pe _)
      cases e <;> first | rfl | (exact absurd rfl (h2 _ _ _)) | (exact absurd rfl (h3 _ _ _ _)) | (exact absurd rfl (h4 _ _ _ _)) | skip
      rename_i op _ _
      cases op <;> first | rfl | (exact absurd rfl (h1 _ _))
end
end KS
set_option linter.all false
set_option autoImplicit false
set_option maxRecDepth 100000
namespace KS
open PySem PySem.Spec PyProof.Rows L2
section
variable {G : Sg} {C : Cc} {X : Cx}
theorem ps_badS (X : Cx) (st : Stmt) : PS X st (tS G badS) := ⟨fun _ _ _ _ _ _ h => (tE_nil (G := G) (tS_ex h)).elim⟩
theorem swSole {ts : List Expr} {k : Nat} {p : Pos} {e : Expr} {l : Nat} {env : PySem.Env} : swapsWithSole [.Tuple ts k p] e l env = pure false := by
  cases e <;> rfl
theorem swSub {a b : Expr} {p : Pos} {e : Expr} {l : Nat} {env : PySem.Env} : swapsWithSole [.Subscript a b p] e l env = pure false := by
  cases e <;> rfl
theorem stSub {a b : Expr} {p : Pos} {e : Expr} {env : PySem.Env} : swappedStores [.Subscript a b p] e env = pure none := by
  cases e <;> rfl
theorem swNone {e : Expr} (h : notComp e = true) {l : Nat} {env : PySem.Env} : swapsWith e none l env = pure false := by
  cases e <;> first | rfl | (simp [notComp] at h)
theorem swName {e : Expr} (h : notComp e = true) {x : Str} {p : Pos} {l : Nat} {env : PySem.Env} : swapsWith e (some (.Name x p)) l env = pure false := by
  cases e <;> first | rfl | (simp [notComp] at h)
theorem setNil {i : Nat} {Dn : Ends} {σ : L2.St} {H : Hp} (h : tS G (.asg i .nil) Dn σ H) : False := tE_nil (G := G) (tS_asg h)
/-- x = e -/
theorem asgN_ok (ok : OkX G C X) (n : Nat) {x : Str} {p pos : Pos} {e : Expr} {i : Nat} (hi : C.dst x = some i) : PS X (.Assign [.Name x p] e pos) (tS G (.asg i (cE n C e))) := by
  obtain ⟨d1, d2, d3, d4⟩ := dst_ok ok hi
  have hp := ((cE_ok n).pe ok).pe e
  by_cases hn : notComp e = true
  · exact weakS (ps_set d1 d2 d3 hp (swName hn) d4) fun Dn σ H h => tS_asg h
  · cases e with
    | ListComp elt gens scope q =>
      have bk : X.env.blockKind = .function := by
        have : X.env.scope.kind = .function := by rw [ok.sc]; exact ok.knd
        unfold Env.blockKind; rw [this]; rfl
      have sw : swapsWith (.ListComp elt gens scope q) (some (.Name x p)) pos.line X.env = pure (X.env.kindOf x == some .local && p.line == q.line && !(scope.names.any fun (n, k) => n == x && (k == .local || k == .cell))) := by
        unfold swapsWith
        simp only [bk]
        rfl
      cases hb : (X.env.kindOf x == some .local && p.line == q.line && !(scope.names.any fun (n, k) => n == x && (k == .local || k == .cell))) with
      | false =>
        rw [hb] at sw
        exact weakS (ps_set d1 d2 d3 hp sw d4) fun Dn σ H h => tS_asg h
      | true =>
        rw [hb] at sw
        have hl : X.env.scope.names.lookup x = some .local := by
          simp only [Bool.and_eq_true] at hb
          exact beq_iff_eq.mp hb.1.1
        cases n with
        | zero => exact ⟨fun _ _ _ _ _ _ h => (setNil h).elim⟩
        | succ n =>
          have z := (cComp_ok (cE_ok n) ok elt gens scope q).2 i x p pos d2 hl sw
          exact weakS z fun Dn σ H h => tS_asg h
    | SetComp elt gens scope q => cases n <;> exact ⟨fun _ _ _ _ _ _ h => (setNil h).elim⟩
    | DictComp k v gens scope q => cases n <;> exact ⟨fun _ _ _ _ _ _ h => (setNil h).elim⟩
    | _ => exact absurd rfl hn
/-- a pair's names are told by the places of the text -/
theorem swapped2 {x y : Str} {px py pt p2 : Pos} {kt k2} {a b : Expr} {env : PySem.Env} (hk : env.blockKind = .function) (ha : nst a = true) (hb : nst b = true) (hc : ([a, b] : List Expr).all (constantsAlone 8) = false) :
    swappedStores [.Tuple [.Name x px, .Name y py] kt pt] (.Tuple [a, b] k2 p2) env = pure none ∨
    (swappedStores [.Tuple [.Name x px, .Name y py] kt pt] (.Tuple [a, b] k2 p2) env = pure (some [x, y]) ∧ env.kindOf x = some .local ∧ env.kindOf y = some .local ∧ x ≠ y) := by
  have hp : (Expr.Name x px).pos.line = px.line := rfl
  unfold swappedStores
  simp only [pure_bind, hk]
  by_cases h1 : env.kindOf x = some .local
  · by_cases h2 : env.kindOf y = some .local
    · by_cases h3 : py.line = px.line
      · by_cases h4 : x = y
        · subst h4
          left
          simp [h1, h3, hp, List.eraseDups_cons]
        · by_cases h5 : ([a, b] : List Expr).all (foldedForSure 8) = true
          · left
            rw [h5]
            simp
          · right
            have h6 : [x, y].eraseDups.length = 2 := by
              have : ¬ y = x := fun z => h4 z.symm
              simp [List.eraseDups_cons, this]
            have h5 : ([a, b] : List Expr).all (foldedForSure 8) = false := by simpa using h5
            rw [h5, hc]
            simp [h1, h2, h3, h4, h6, hp]
            intro hor
            exfalso
            rcases hor with h | h
            · cases a <;> first | (cases h; done) | (simp [nst] at ha)
            · cases b <;> first | (cases h; done) | (simp [nst] at hb)
      · left; simp [h1, h2, h3, hp]
    · left; simp [h1, h2, hp]
  · left
    simp [h1, hp]
    by_cases h2 : env.kindOf y = some .local ∧ py.line = px.line
    · simp [h2]
    · simp [h2]
theorem asgT_par {is : List Nat} {es : E} {Dn : Ends} {σ : L2.St} {H : Hp} (h : tS G (.asgT is (.tup es)) Dn σ H) : tS G (.par is es) Dn σ H := by
  obtain ⟨W0, Os, env, e, r⟩ := h
  refine ⟨W0, Os, env, e, ?_⟩
  have ev : evS G.C (.asgT is (.tup es)) env = (evL G.C es env >>= fun p => if decide (p.1.length ≤ line) = true then (setEs G.C p.2 is p.1 >>= fun env => R.ok (Out.nx env)) else R.bad) := by
    show ((evL G.C es env >>= fun p => if decide (p.1.length ≤ line) = true then R.ok (D.tup p.1, p.2) else .bad) >>= _) = _
    cases evL G.C es env with
    | bad => rfl
    | exc c fs => rfl
    | ok p =>
      show ((if decide (p.1.length ≤ line) = true then R.ok (D.tup p.1, p.2) else .bad) >>= _) = (if decide (p.1.length ≤ line) = true then _ else _)
      cases decide (p.1.length ≤ line) <;> rfl
  rw [ev] at r
  show Run G W0 Os H (evL G.C es env >>= fun p => setEs G.C p.2 is p.1 >>= fun env => R.ok (Out.nx env)) _
  cases g : evL G.C es env with
  | bad => rw [g] at r; exact r
  | exc c fs => rw [g] at r; exact r
  | ok p =>
    rw [g] at r
    exact (Run.guard (G := G) (W0 := W0) (Os := Os) (H := H) r).2
theorem swapped_sub {o1 o2 ix jx a b : Expr} {q1 q2 pt p2 : Pos} {kt k2} {env : PySem.Env} (ha : nst a = true) (hb : nst b = true) : swappedStores [.Tuple [.Subscript o1 ix q1, .Subscript o2 jx q2] kt pt] (.Tuple [a, b] k2 p2) env = pure none := by
  unfold swappedStores
  simp only [pure_bind]
  by_cases hk : env.blockKind = .function
  · simp [hk]
  · simp [hk]
theorem blk_fun (ok : OkX G C X) : X.env.blockKind = .function := by
  have : X.env.scope.kind = .function := by rw [ok.sc]; exact ok.knd
  unfold Env.blockKind; rw [this]; rfl
/-- a, b = (e, f) -/
theorem par_ok (ok : OkX G C X) (n : Nat) {ts vs : List Expr} {k k2 : Nat} {p p2 pos : Pos} {is : List Nat} (hts : cTs C ts = some is) (hp : parOk ts vs = true) : PS X (.Assign [.Tuple ts k p] (.Tuple vs k2 p2) pos) (tS G (.asgT is (cE n C (.Tuple vs k2 p2)))) := by
  unfold parOk at hp
  simp only [Bool.and_eq_true, decide_eq_true_eq, Bool.not_eq_true'] at hp
  obtain ⟨⟨⟨hn, hc⟩, hl⟩, h2⟩ := hp
  obtain ⟨g1, g2, g3⟩ := cTs_ok ok hts
  obtain ⟨a3, b3⟩ := g3 X.env
  have none' : swappedStores [.Tuple ts k p] (.Tuple vs k2 p2) X.env = pure none → PS X (.Assign [.Tuple ts k p] (.Tuple vs k2 p2) pos) (tS G (.asgT is (cE n C (.Tuple vs k2 p2)))) := fun hw => by
    refine weakS (ps_asg (((cE_ok n).pe ok).pe _) (pg_tup (n := is.length) ok.calm g1 (by rw [a3, g2]) b3) swSole hw rfl) fun Dn σ H h => ?_
    rw [ok.K]; exact tS_asgT h
  match ts, vs, h2, hl with
  | [t1, t2], [a, b], _, _ =>
    cases t1 with
    | Name x px =>
      cases t2 with
      | Name y py =>
        simp only [List.all_cons, List.all_nil, Bool.and_true, Bool.and_eq_true] at hn
        rcases swapped2 (x := x) (y := y) (px := px) (py := py) (pt := p) (p2 := p2) (kt := k) (k2 := k2) (env := X.env) (blk_fun ok) hn.1 hn.2 hc with hw | ⟨hw, kx, ky, hxy⟩
        · exact none' hw
        · cases n with
          | zero => exact ⟨fun _ _ _ _ _ _ h => (tE_nil (G := G) (tS_asgT h)).elim⟩
          | succ n =>
            have e1 : cTs C [.Name x px, .Name y py] = ((C.dst x).bind fun i => ((C.dst y).bind fun j => some [j]).map (i :: ·)) := by
              show ((C.dst x).bind fun i => (((C.dst y).bind fun j => (some []).map (j :: ·))).map (i :: ·)) = _
              rfl
            rw [e1] at hts
            cases dx : C.dst x with
            | none => rw [dx] at hts; cases hts
            | some i =>
              cases dy : C.dst y with
              | none => rw [dx, dy] at hts; cases hts
              | some j =>
                rw [dx, dy] at hts
                cases hts
                obtain ⟨d1, d2, _, _⟩ := dst_ok ok dx
                obtain ⟨f1, f2, _, _⟩ := dst_ok ok dy
                have hij : i ≠ j := fun z => by subst z; rw [d2] at f2; cases f2; exact hxy rfl
                have hL := cLst_ok (((cE_ok n).pe ok)) [a, b]
                refine weakS (ps_par ok.calm d1 d2 f2 hij kx ky hL hw) fun Dn σ H h => ?_
                refine tL_mono (tS_par (asgT_par h)) fun us H1 q => ?_
                obtain ⟨v, r, rfl, q⟩ := q
                obtain ⟨w, r2, rfl, q⟩ := q
                obtain ⟨rfl, q⟩ := q
                exact ⟨v, w, rfl, q⟩
      | _ => exact absurd hts (by show ((C.dst x).bind fun i => (none : Option (List Nat)).map (i :: ·)) ≠ some is; cases C.dst x <;> simp)
    | _ => cases hts
theorem cAsg_ok (ok : OkX G C X) (n : Nat) (tg e : Expr) (pos : Pos) : PS X (.Assign [tg] e pos) (tS G (cAsg n C tg e)) := by
  unfold cAsg
  split
  · split
    · rename_i h; exact asgN_ok ok n h
    · exact ps_badS _ _
  · rename_i ts k p
    unfold cAsgT
    split
    · rename_i js hts
      split
      · split
        · rename_i hp
          exact par_ok ok n hts hp
        · exact ps_badS _ _
      · rename_i hnt
        split
        · obtain ⟨h1, h2, h3⟩ := cTs_ok ok hts
          obtain ⟨a, b⟩ := h3 X.env
          refine weakS (ps_asg (((cE_ok n).pe ok).pe e) (pg_tup (n := js.length) ok.calm h1 (by rw [a, h2]) b) swSole ?_ rfl) fun Dn σ H h => ?_
          · cases e <;> first | rfl | (exact absurd rfl (hnt _ _ _))
          · rw [ok.K]; exact tS_asgT h
        · exact ps_badS _ _
    · split
      · rename_i i ix jx a b k2 p2 hsw
        split
        · rename_i hn
          simp only [Bool.and_eq_true] at hn
          unfold swpOf at hsw
          split at hsw
          · split at hsw
            · rename_i o1 q1 ix' r1 o2 q2 jx' r2 i1 i2 hi1 hi2
              split at hsw
              · rename_i hd
                simp only [Bool.and_eq_true, decide_eq_true_eq] at hd
                obtain ⟨⟨rfl, hs1⟩, hs2⟩ := hd
                cases hsw
                have hL : cLst (cE n C) [a, b] = .cons (cE n C a) (.cons (cE n C b) .nil) := by
                  show (if nst a = true then E.cons (cE n C a) (if nst b = true then E.cons (cE n C b) .nil else .cons .nil .nil) else .cons .nil .nil) = _
                  rw [if_pos hn.1, if_pos hn.2]
                have hP := cLst_ok (((cE_ok n).pe ok)) [a, b]
                rw [hL] at hP
                refine weakS (ps_asg (pe_tup hP) (pg_tup (n := 2) ok.calm (pgs_cons (pg_sub (slot_ok ok hi1) (((cE_ok n).pe ok).pe ix) set_list (fun v => by cases ix <;> first | rfl | (simp [notSlice] at hs1))) (pgs_cons (pg_sub (slot_ok ok hi2) (((cE_ok n).pe ok).pe jx) set_list (fun v => by cases jx <;> first | rfl | (simp [notSlice] at hs2))) pgs_nil)) rfl rfl) swSole (swapped_sub hn.1 hn.2) rfl) fun Dn σ H h => ?_
                rw [ok.K]; exact tS_swp h
              · cases hsw
            · cases hsw
          · cases hsw
        · exact ps_badS _ _
      · exact ps_badS _ _
  · rename_i o p ix q
    split
    · rename_i i hi
      split
      · rename_i hc
        simp only [Bool.and_eq_true] at hc
        have hns := hc.1
        split
        · have hu : X.A.units + 1 < cLine := by have := ok.un; omega
          refine weakS (ps_asg (((cE_ok n).pe ok).pe e) (pg_sub (slot_ok ok hi) (((cE_ok n).pe ok).pe ix) (set_dict hu) (fun v => by cases ix <;> first | rfl | (simp [notSlice] at hns))) swSub stSub rfl) fun Dn σ H h => tS_dset h
        · refine weakS (ps_asg (((cE_ok n).pe ok).pe e) (pg_sub (slot_ok ok hi) (((cE_ok n).pe ok).pe ix) set_list (fun v => by cases ix <;> first | rfl | (simp [notSlice] at hns))) swSub stSub rfl) fun Dn σ H h => tS_seti h
      · exact ps_badS _ _
    · exact ps_badS _ _
  · exact ps_badS _ _
theorem litE_ok {a : Expr} {d : D} (h : litE a = some d) : PE X a (tC (toV d)) ∧ nst a = true := by
  cases a with
  | Constant c k p =>
    have h : litD c = some d := h
    unfold litD at h
    split at h <;> cases h
    · exact ⟨pe_non, rfl⟩
    · exact ⟨pe_bl, rfl⟩
    · exact ⟨pe_int, rfl⟩
    · exact ⟨pe_str, rfl⟩
  | _ => cases h
theorem slotE_ok (ok : OkX G C X) {a : Expr} {i : Nat} (h : slotE C a = some i) : PE X a (tVar i) ∧ nst a = true := by
  cases a with
  | Name x p => exact ⟨slot_ok ok h, rfl⟩
  | _ => cases h
theorem pathOf_ok (ok : OkX G C X) : ∀ {n : Nat} {o : Expr} {ks : List Nat} {i : Nat} {p : List Nat}, pathOf n C o ks = some (i, p) → ∃ te, PE X o te ∧ pathT X.K te ks = pathT X.K (tVar i) p
  | 0, o, ks, i, p, h => by cases h
  | n + 1, o, ks, i, p, h => by
    cases o with
    | Name x q =>
      have h : (C.slot x).map (fun i => (i, ks)) = some (i, p) := h
      cases e1 : C.slot x with
      | none => rw [e1] at h; cases h
      | some j =>
        rw [e1] at h; cases h
        exact ⟨_, slot_ok ok e1, rfl⟩
    | Subscript a j q =>
      have h : (natE j).bind (fun k => pathOf n C a (k :: ks)) = some (i, p) := h
      cases e1 : natE j with
      | none => rw [e1] at h; cases h
      | some k =>
        rw [e1] at h
        obtain ⟨te, h1, h2⟩ := pathOf_ok ok (show pathOf n C a (k :: ks) = some (i, p) from h)
        unfold natE at e1
        split at e1
        · cases e1
          exact ⟨_, pe_ix ix_A h1 pe_int fun _ _ => rfl, h2⟩
        · cases e1
    | _ => cases h
theorem cApp_ok (ok : OkX G C X) (n : Nat) {o a : Expr} {apos cpos pos : Pos} (hl : lineOk apos cpos = true) (hn : nst a = true) : PS X (.Expr (.Call (.Attribute o ("append" : Str) apos) [a] [] cpos) pos) (tS G (cApp n C o a)) := by
  have hp := ((cE_ok n).pe ok).pe a
  have go : ∀ {to : TE} {t : TA}, PE X o to → PA X [a] t → attributeBase o ("append" : Str) X.env (eval o X.env) = eval o X.env → PS X (.Expr (.Call (.Attribute o ("append" : Str) apos) [a] [] cpos) pos) (tDrop (tBM X.K "list" rAppend to t)) := fun {to t} ho ha hb =>
    ps_expr (pe_bm PySem.F.plainAttrs_list PySem.F.slot_list_append PySem.F.type_list_append mt_append ho ha hb (by rw [nst_star hn]; rfl) hl (nst_star hn) (nst_all rfl)) rfl
  unfold cApp
  split
  · rename_i x p
    split
    · rename_i i hi
      refine weakS (go (slot_ok ok hi) (pa_cons hp pa_nil (nst_star hn)) rfl) fun Dn σ H h => ?_
      rw [ok.K]; exact tS_app h
    · exact ps_badS _ _
  · rename_i b ix p
    split
    · rename_i i ks d h1 h2
      obtain ⟨te, k1, k2⟩ := pathOf_ok ok h1
      have k2 : te = pathT X.K (tVar i) ks := k2
      obtain ⟨l1, l2⟩ := litE_ok h2
      refine weakS (go k1 (pa_cons l1 pa_nil (nst_star l2)) rfl) fun Dn σ H h => ?_
      rw [k2, ok.K]; exact tS_appP h
    · split
      · rename_i i j hi hj
        split
        · rename_i hs
          obtain ⟨a1, _⟩ := slotE_ok ok hi
          obtain ⟨b1, b2⟩ := slotE_ok ok hj
          refine weakS (go (pe_ix ix_A a1 (((cE_ok n).pe ok).pe ix) fun o v => ?_) (pa_cons b1 pa_nil (nst_star b2)) rfl) fun Dn σ H h => ?_
          · unfold subscripted
            cases ix <;> first | rfl | (simp [notSlice] at hs)
          · rw [ok.K]; exact tS_appX h
        · exact ps_badS _ _
      · exact ps_badS _ _
  · exact ps_badS _ _
theorem cSs_ok {rec : Stmt → S} (hr : ∀ st, PS X st (tS G (rec st))) : ∀ ss : List Stmt, PSs X ss (tS G (cSs rec ss))
  | [] => weakSs pss_nil fun Dn σ H h => tS_skip h
  | [s] => pss_one (hr s)
  | s :: t :: r => weakSs (pss_cons (hr s) (cSs_ok hr (t :: r))) fun Dn σ H h => tS_seq h
theorem cRet_ok (ok : OkX G C X) (n : Nat) (e : Expr) (pos : Pos) : PS X (.Return (some e) pos) (tS G (cRet n C e)) := by
  unfold cRet
  split
  · rename_i i hi
    exact weakS (ps_ret (slotE_ok ok hi).1) fun Dn σ H h => tS_retV h
  · split
    · exact ps_badS _ _
    · rename_i hv
      refine weakS (ps_ret (((cE_ok n).pe ok).pe e)) fun Dn σ H h => tS_ret ?_ h
      cases hc : cE n C e <;> first | rfl | (rw [hc] at hv; simp [isVarC] at hv)
theorem augP_ok {op : Operator} {p : Prim} (h : augP op = some p) : PIp X op (tiP p) ∧ (p = .add ∨ p = .mul) := by
  unfold augP at h
  split at h <;> cases h
  · exact ⟨ip_addA, .inl rfl⟩
  · exact ⟨ip_mulA, .inr rfl⟩
theorem cPin_T {G : Sg} {C : Cc} {A : E} {R : Bool → Hp → Prop} {σ : L2.St} {H : Hp} (h : tT G (cPin C A) σ H R) : tT G A σ H R := by
  unfold cPin at h
  split at h
  · exact tE_pin h
  · exact h
theorem cS_ok : ∀ n {G : Sg} {C : Cc} {X : Cx}, OkX G C X → PassesOwn (model X.prog X.w) X.A X.env X.xe → ∀ st, PS X st (tS G (cS n C st))
  | 0, G, C, X, ok, hp, st => ps_badS _ _
  | n + 1, G, C, X, ok, hp, st => by
    have ih := cS_ok n ok hp
    have ra := cE_ok n
    have hr := ra.pe ok
    unfold cS
    split
    · exact cAsg_ok ok n _ _ _
    · split
      · rename_i hi hq
        obtain ⟨d1, d2, d3, d4⟩ := dst_ok ok hi
        obtain ⟨a1, a2⟩ := augP_ok (X := X) hq
        exact weakS (ps_aug d1 d2 d3 (hr.pe _) a1 d4) fun Dn σ H h => tS_aug a2 h
      · exact ps_badS _ _
    · split
      · split
        · rename_i hm
          obtain rfl := beq_str hm
          split
          · rename_i hc
            simp only [Bool.and_eq_true] at hc
            exact cApp_ok ok n hc.1 hc.2
          · exact ps_badS _ _
        · exact weakS (ps_expr (hr.pe _) rfl) fun Dn σ H h => tS_ex h
      · split
        · rename_i hc
          exact weakS (ps_expr (hr.pe _) (swNone hc)) fun Dn σ H h => tS_ex h
        · exact ps_badS _ _
    · exact weakS (ps_if (ra.pt ok _) (cSs_ok ih _) (cSs_ok ih _)) fun Dn σ H h => cPin_T (tS_ifs h)
    · exact weakS (ps_while hp (ra.pt ok _) (cSs_ok ih _)) fun Dn σ H h => tS_whl h
    · rename_i tg it b pos
      split
      · rename_i ts hts
        obtain ⟨i1, i2⟩ := cIt_ok ok hr tg it
        generalize hk : (cIt (cE n C) C tg it).1 = k at i1 ⊢
        generalize hes : (cIt (cE n C) C tg it).2 = es at i1 i2 ⊢
        by_cases hd : es = .cons .nil .nil
        · subst hd
          refine ⟨fun _ _ _ _ _ _ h => ?_⟩
          obtain ⟨W0, Os, env, e, r⟩ := h
          exact r.elim
        · exact weakS (ps_for hp ok.calm i1 (cTg_ok ok hts) (cSs_ok ih b) fun x => i2 hd _ _) fun Dn σ H h => tS_for h
      · exact ps_badS _ _
    · exact cRet_ok ok n _ _
    · exact weakS ps_retN fun Dn σ H h => tE_lit (G := G) (d := .non) (v := .non) (fun _ _ _ => .non) (tS_ret rfl h)
    · exact weakS ps_pass fun Dn σ H h => tS_skip h
    · exact weakS ps_break fun Dn σ H h => tS_brk h
    · exact weakS ps_continue fun Dn σ H h => tS_cnt h
    · exact ps_badS _ _
end
end KS
set_option linter.all false
set_option autoImplicit false
set_option maxRecDepth 100000
namespace KS
open PySem PySem.Spec PyProof.Rows L2
/-! ### a def, by its body -/
section
variable {P : Program} {w : World} {K : PySem.W.Frag} {mg : Str → Option Value} {base : Heap}
abbrev bodyX (P : Program) (w : World) (K : PySem.W.Frag) (mg : Str → Option Value) (base : Heap) (N : List Str) (q : Str) (sc : Scope) (f : Addr) (c : Value) (A : Around) (out : List PySem.Env) (s : Shared) (H : Hp) (Ex : XK) : Cx := cxOf (L2.CX P w) P w K mg base N q sc f c A out s H Ex
theorem fnG_of {k : Nat} {f : Addr} {nm q : Str} {as : Arguments} {body : List Stmt} {sc : Scope} {d1 d2 d3 d4 c d5 oc : Value} {o1 o2 : Option Addr} {sl : Array (Option Value)} {N ps : List Str} {sp : Sp}
    (look : K.lookup f = some ⟨oc, o2, .func (PySem.W.fnOf nm q as body sc d1 d2 d3 d4 o1 c d5), sl⟩) (code : PySem.W.codeIn K c q = true) (S : FnScope N ps sc) (hlen : ∀ vs H Q Ex, sp vs H Q Ex → vs.length = ps.length)
    (hbody : ∀ (A : Around) (out : List PySem.Env) (s : Shared) (H : Hp) (vs : List V) (Q : VK) (Ex : XK), A.guards = some [] → Room k (bodyX P w K mg base N q sc f c A out s H Ex).A → sp vs H Q Ex →
      ∃ t, PSs (bodyX P w K mg base N q sc f c A out s H Ex) body t ∧ t { nx := fun _ H' => Q .non H', rt := Q } (start N vs) H) :
    FnG P w K mg base (k + 1) f (PySem.W.fnOf nm q as body sc d1 d2 d3 d4 o1 c d5) ps sp := by
  constructor
  · exact hlen
  · intro A out s H args us vs Q Ex hg room en bind rel want
    have inn : K.In s.heap := PySem.W.Frag.In.keeps en.mod.kin fun b o e => (en.bs b o e).1
    have nol : s.heap.NoLimit := Heap.NoLimit.keeps en.mod.nolimit fun b o e => (en.bs b o e).1
    have kinds : ∀ y, y ∈ ps.zip us → sc.names.lookup y.1 = some .local ∨ (sc.names.lookup y.1 = some .cell ∧ ((cellsFrom (s.heap.objs.size + 1) sc.names []).lookup y.1).isSome = true) := by
      rintro ⟨x, v⟩ hx
      cases S.par x (List.of_mem_zip hx).1 with
      | inl h => exact .inl h
      | inr h => exact .inr ⟨h, PySem.W.cellsFrom_some _ _ _ (.inl h)⟩
    apply codeAny_call_function room.depth (inn _ _ look) rfl S.co S.gen rfl (PySem.W.codeRec_of inn code)
    apply bind
    apply wpAny_newFunctionEnv_cells S.kind kinds
    rintro _ rfl s1 at1
    refine ⟨nol.keeps at1.toInCall.keep, codeAny_func ?_⟩
    have I : Inv (bodyX P w K mg base N q sc f c A out s H Ex) [] (start N vs) H s1 := inv_start S room.hd en (hlen _ _ _ _ want) rel at1
    obtain ⟨t, ht, hq⟩ := hbody A out s H vs Q Ex hg (room.deeper _) want
    refine wpAny_mono (ht.run [] s1 (start N vs) H _ I hq) ?_ fun _ _ z => z
    intro fl s2 hs
    have leave : ∀ {τ : L2.St} {H2 : Hp} {v : V} {u : Value}, Inv (bodyX P w K mg base N q sc f c A out s H Ex) [] τ H2 s2 → RelV v u → Q v H2 → CE out P w H s Q u s2 := by
      intro τ H2 v u J r z
      exact ⟨v, H2, J.os, J.bare, J.base, J.hok, r, z⟩
    cases fl with
    | next =>
      obtain ⟨_, _, J, z⟩ := hs
      exact leave (v := .non) (u := .none) J rfl z
    | ret u =>
      obtain ⟨_, _, _, J, r, z⟩ := hs
      exact leave J r z
    | brk => obtain ⟨_, _, _, z⟩ := hs; exact z.elim
    | cont => obtain ⟨_, _, _, z⟩ := hs; exact z.elim
end
/-! ### the slots at a def's start -/
section
variable {G : Sg} {K : PySem.W.Frag} {W W0 O : Pr} {Os : Nat → Pr} {H H' : Hp} {d : D} {v : V} {Q : VK}
theorem EnvOk.begin {N : List Str} {vs : List V} {ds : List D} {ns : Nat} (e : EnvOk K H W0 (vs.map some) (ds.map some) Os) (hn : N.length = ns) (hl : vs.length ≤ N.length) : EnvOk K H W0 (start N vs) (ds.map some ++ List.replicate (ns - ds.length) none) Os := by
  have hvd : vs.length = ds.length := by simpa using e.len
  unfold L2.start
  refine ⟨by simp; omega, fun i d q => ?_, e.dj, e.out, e.lv, e.lv0⟩
  by_cases hi : i < ds.length
  · rw [List.getElem?_append_left (by simpa using hi)] at q
    rw [List.getElem?_append_left (by simpa using (by omega : i < vs.length))]
    exact e.tr i d q
  · rw [List.getElem?_append_right (by simpa using hi), List.getElem?_replicate] at q
    split at q <;> cases q
/-- what a body gives is what the promise asks for -/
theorem spF_body {C : Ctx} {i np : Nat} {F : FnI} {N : List Str} {vs : List V} {Ex : XK} (hC : C.fx = F.io) (hio : G.C.io i = F.io) (hnp : F.np = np) (hns : N.length = F.ns) (hN : np ≤ N.length) (hio1 : F.io = true → 0 < np)
    (hrun : ∀ ds : List D, ds.length = np → G.C.run i ds = (evS C F.body (ds.map some ++ List.replicate (F.ns - ds.length) none) >>= fun o => match o with | .ret d env => fin F.io d env | .nx env => fin F.io .non env | _ => .bad))
    (h : spF G i np vs H Q Ex) : tS { G with C := C, Ex := Ex } F.body { nx := fun _ H' => Q .non H', rt := Q } (start N vs) H := by
  obtain ⟨W0, Os, ds, e, hl, rn⟩ := h
  have hvd : vs.length = ds.length := by simpa using e.len
  have e0 := e.begin (N := N) hns (by omega)
  refine ⟨W0, Os, _, e0, ?_⟩
  have rn : Run { G with Ex := Ex } W0 Os H (G.C.run i ds) fun p => ∀ v H', Res G W0 Os H (vs.map some) (outE (G.C.io i) p.2 np) p.1 v H' → Q v H' := rn
  rw [hrun ds hl] at rn
  have rn2 := Run.bind rn
  refine Run.mono (G := { G with C := C, Ex := Ex }) rn2 fun o _ q => ?_
  -- the values that stay
  have keep : ∀ {σ' : L2.St} {env' : Env} {H' : Hp} {d : D} {v : V}, Fix C (start N vs) σ' → Res G W0 Os H σ' env' d v H' → (Run { G with Ex := Ex } W0 Os H (fin F.io d env') fun p => ∀ v H', Res G W0 Os H (vs.map some) (outE (G.C.io i) p.2 np) p.1 v H' → Q v H') → Q v H' := by
    intro σ' env' H' d v fx ⟨Os', O, e', dj, po, t⟩ q
    unfold fin at q
    cases hf : F.io with
    | false =>
      rw [hf] at q
      rw [if_neg Bool.false_ne_true] at q
      refine Run.okE (G := { G with Ex := Ex }) (W0 := W0) (Os := Os) (H := H) q v H' ⟨Os', O, e'.forget ?_ fun j d q => ?_, dj, po, t⟩
      · rw [hio, hf]
        cases np with
        | zero => simp only [outE, List.length_map, List.length_nil]; omega
        | succ m => simp only [outE, List.length_map, List.length_cons, List.length_replicate]; omega
      · rw [hio, hf] at q
        cases np with
        | zero => simp [outE] at q
        | succ m =>
          cases j with
          | zero => simp [outE] at q
          | succ j =>
            simp only [outE, List.getElem?_cons_succ, List.getElem?_replicate] at q
            split at q <;> cases q
    | true =>
      rw [hf] at q
      rw [if_pos rfl] at q
      have q1 := Run.bind q
      cases g : getE env' 0 with
      | exc c fs => unfold getE at g; split at g <;> cases g
      | bad => rw [g] at q1; exact q1.elim
      | ok d1 =>
        rw [g] at q1
        have hp := hio1 hf
        refine Run.okE (G := { G with Ex := Ex }) (W0 := W0) (Os := Os) (H := H) q1 v H' ⟨Os', O, e'.forget ?_ fun j d q => ?_, dj, po, t⟩
        · rw [hio, hf]
          cases np with
          | zero => omega
          | succ m => simp only [outE, List.length_map, List.length_cons, List.length_replicate]; omega
        · rw [hio, hf] at q
          cases np with
          | zero => omega
          | succ m =>
            cases j with
            | zero =>
              simp only [outE, if_true, List.getElem?_cons_zero] at q
              cases q
              refine ⟨getE_ok g, ?_⟩
              have hv : 0 < vs.length := by omega
              rw [fx (by rw [hC]; exact hf)]
              unfold L2.start
              rw [List.getElem?_append_left (by simpa using hv)]
            | succ j =>
              simp only [outE, List.getElem?_cons_succ, List.getElem?_replicate] at q
              split at q <;> cases q
  cases o with
  | ret d env' => exact fun σ' v H' fx res => keep fx res q
  | nx env' =>
    intro σ' H' ⟨fx, Os', e', po⟩
    exact keep fx ⟨Os', fun _ => False, e'.shrink fun a z => z.elim id fun z => z.elim, fun _ z => z.elim, po, .non⟩ q
  | brk env' => exact q.elim
  | ct env' => exact q.elim
end
end KS
set_option linter.all false
set_option autoImplicit false
set_option maxRecDepth 100000
namespace KS
open PySem PySem.Spec PyProof.Rows L2
/-- the defs of a law: their table, the constants, the built-ins, the compiled bodies -/
structure Tb where
  fns : List (Str × Fe)
  cs : List (Str × Int)
  bl : List Str
  tbl : List FnI
  dep : Nat
  fuel : Nat
  dn : List (List Str × List Str) := []
def Tb.cc (T : Tb) (N : List Str) (sc : Scope) : Cc := ⟨N, sc, fun _ => true, T.fns, T.cs, T.bl, (T.dn.lookup N).getD []⟩
def Tb.cx (T : Tb) (io : Bool) (n : Nat) : Ctx := { fx := io, io := fun g => ((T.tbl[g]?).map (·.io)).getD false, run := run T.tbl T.fuel n, fuel := T.fuel }
def DefOk (K : PySem.W.Frag) (mg : Str → Option Value) (T : Tb) (x : Str) (fe : Fe) : Prop :=
  ∃ (f : Addr) (nm q : Str) (as : Arguments) (body : List Stmt) (sc : Scope) (d1 d2 d3 d4 c d5 oc : Value) (o1 o2 : Option Addr) (sl : Array (Option Value)) (N : List Str),
    mg x = some (.ref f) ∧ K.lookup f = some ⟨oc, o2, .func (PySem.W.fnOf nm q as body sc d1 d2 d3 d4 o1 c d5), sl⟩ ∧ PySem.W.codeIn K c q = true ∧ PySem.W.keepIn K (.ref f) = true ∧ FnScope N fe.ps sc ∧
    Binds K (PySem.W.fnOf nm q as body sc d1 d2 d3 d4 o1 c d5) fe.ps [] ∧ (∀ (ns : List Str) (pm : List Nat), fe.kws.lookup ns = some pm → KwTo K (PySem.W.fnOf nm q as body sc d1 d2 d3 d4 o1 c d5) fe.ps ns pm) ∧
    T.tbl[fe.ix]? = some ⟨fe.ps.length, N.length, fe.io, cSs (cS T.dep (T.cc N sc)) body⟩ ∧ (fe.io = true → 0 < fe.ps.length)
/-- what the module's names stand for -/
structure NamesOk (K : PySem.W.Frag) (mg : Str → Option Value) (T : Tb) : Prop where
  defs : ∀ x fe, T.fns.lookup x = some fe → DefOk K mg T x fe
  cs : ∀ x i, T.cs.lookup x = some i → ∃ u, mg x = some u ∧ RelV (.int i) u
  bl : ∀ x, T.bl.contains x = true → mg x = none
/-- exceptions and their objects -/
structure Xo where
  XO : Str → List D → Pr → Value → Option Addr → Hp → Prop
  anti : ∀ (c : Str) (fs : List D) (W W' : Pr) (v : Value) (d : Option Addr) (H : Hp), (∀ a, W' a → W a) → XO c fs W v d H → XO c fs W' v d H
def noXo : Xo := ⟨fun _ _ _ _ _ _ => False, fun _ _ _ _ _ _ _ _ z => z⟩
section
variable {P : Program} {w : World} {K : PySem.W.Frag} {mg : Str → Option Value} {base : Heap} {T : Tb} {Xe : Xo}
def sgAt (K : PySem.W.Frag) (T : Tb) (Xe : Xo) (io : Bool) (n : Nat) (Ex : XK) : Sg := ⟨K, T.cx io n, Xe.XO, Xe.anti, Ex⟩
theorem run_len {tbl : List FnI} {fuel : Nat} {F : FnI} {i : Nat} (h : tbl[i]? = some F) : ∀ (n : Nat) (ds : List D), ds.length ≠ F.np → run tbl fuel n i ds = .bad
  | 0, ds, _ => rfl
  | n + 1, ds, hl => by
    have hb : (ds.length == F.np) = false := by simpa using hl
    unfold run
    rw [h]
    show (if (ds.length == F.np) = true then _ else _) = _
    rw [hb]
    rfl
theorem run_succ {tbl : List FnI} {fuel : Nat} {F : FnI} {i : Nat} (h : tbl[i]? = some F) (n : Nat) (ds : List D) (hl : ds.length = F.np) :
    run tbl fuel (n + 1) i ds = (evS { fx := F.io, io := fun g => ((tbl[g]?).map (·.io)).getD false, run := run tbl fuel n, fuel := fuel } F.body (ds.map some ++ List.replicate (F.ns - F.np) none) >>= fun o => match o with | .ret d env => fin F.io d env | .nx env => fin F.io .non env | _ => .bad) := by
  have hb : (ds.length == F.np) = true := by simpa using hl
  unfold run
  rw [h]
  show (if (ds.length == F.np) = true then _ else _) = _
  first
  | (rw [hb, if_pos rfl]; done)
  | (rw [hb, if_pos rfl]
     cases evS { fx := F.io, io := fun g => ((tbl[g]?).map (·.io)).getD false, run := run tbl fuel n, fuel := fuel } F.body (ds.map some ++ List.replicate (F.ns - F.np) none) with
     | ok o => cases o <;> rfl
     | exc c fs => rfl
     | bad => rfl)
theorem deeper_gu {A : Around} {env : PySem.Env} (h : A.guards = some []) : (A.deeper env).guards = some [] := h
/-- every def of the table keeps the evaluator's promise, at every level -/
theorem levels (ok : NamesOk K mg T) : ∀ (n : Nat) (x : Str) (fe : Fe), T.fns.lookup x = some fe → ∃ (f : Addr) (fd : FuncData), mg x = some (.ref f) ∧ FnG P w K mg base n f fd fe.ps (spF (sgAt K T Xe false n fun _ _ _ => False) fe.ix fe.ps.length) ∧
    PySem.W.keepIn K (.ref f) = true ∧ Binds K fd fe.ps [] ∧ (∀ (ns : List Str) (pm : List Nat), fe.kws.lookup ns = some pm → KwTo K fd fe.ps ns pm) ∧ ∃ (oc : Value) (o2 : Option Addr) (sl : Array (Option Value)), K.lookup f = some ⟨oc, o2, .func fd, sl⟩
  | 0, x, fe, hx => by
    obtain ⟨f, nm, q, as, body, sc, d1, d2, d3, d4, c, d5, oc, o1, o2, sl, N, hm, hl, hc, hk, hS, hb, hkw, ht, hio⟩ := ok.defs x fe hx
    refine ⟨f, _, hm, ⟨fun vs H Q E h => spF_len h, fun A out s H args us vs Q Ex _ _ _ _ _ h => ?_⟩, hk, hb, hkw, _, _, _, hl⟩
    obtain ⟨W0, Os, ds, e, hl, rn⟩ := h
    exact rn.elim
  | n + 1, x, fe, hx => by
    have ih := levels ok n
    obtain ⟨f, nm, q, as, body, sc, d1, d2, d3, d4, c, d5, oc, o1, o2, sl, N, hm, hl, hc, hk, hS, hb, hkw, ht, hio⟩ := ok.defs x fe hx
    refine ⟨f, _, hm, fnG_of hl hc hS (fun vs H Q E h => spF_len h) (fun A out s H vs Q Ex hg room want => ?_), hk, hb, hkw, _, _, _, hl⟩
    have okX : OkX (sgAt K T Xe fe.io n Ex) (T.cc N sc) (bodyX P w K mg base N q sc f c A out s H Ex) := by
      refine ⟨rfl, rfl, hS.nd, rfl, hS.kind, fun _ _ => rfl, rfl, deeper_gu hg, by have := room.un; omega, ?_, fun y ge hy => ?_, ok.cs, ok.bl⟩
      · exact passes_call (takes_of rfl rfl rfl rfl) fun _ _ _ _ z => z
      · obtain ⟨f', fd', m', F', k', b', w', _⟩ := ih y ge hy
        obtain ⟨_, _, _, _, _, _, _, _, _, _, _, _, _, _, _, _, _, _, _, _, _, _, _, _, ht', _⟩ := ok.defs y ge hy
        refine ⟨n, f', fd', m', room, F', k', b', w', ?_, fun ds hd => run_len ht' n ds hd⟩
        show ((T.tbl[ge.ix]?).map (·.io)).getD false = ge.io
        rw [ht']; rfl
    refine ⟨_, cSs_ok (cS_ok T.dep okX (passes_of rfl)) body, ?_⟩
    have hN : fe.ps.length ≤ N.length := by
      have := congrArg List.length hS.pre
      rw [List.length_take] at this; omega
    have io1 : (sgAt K T Xe false (n + 1) fun _ _ _ => False).C.io fe.ix = fe.io := by
      show ((T.tbl[fe.ix]?).map (·.io)).getD false = fe.io
      rw [ht]; rfl
    exact spF_body (G := sgAt K T Xe false (n + 1) fun _ _ _ => False) (C := T.cx fe.io n) (F := ⟨fe.ps.length, N.length, fe.io, cSs (cS T.dep (T.cc N sc)) body⟩) rfl io1 rfl rfl hN hio
      (fun ds hd => by
        have := run_succ (fuel := T.fuel) ht n ds hd
        rw [hd]
        exact this) want
theorem cx_false {out : List PySem.Env} {H : Hp} {s s' : Shared} {e : Value} (h : L2.CX P w out H s (fun _ _ _ => False) e s') : False := by
  obtain ⟨_, _, _, _, _, _, _, _, _, _, _, _, z⟩ := h
  exact z.elim
/-- the script, as the caller hands it on -/
def Scr (K : PySem.W.Frag) (H : Hp) (a : Addr) (ns : List Int) : Prop := (∃ o, H a = some (.frz o (.lst (ns.map V.int)))) ∨ ∀ H2 : Hp, SqL K H2 a (ns.map V.int)
/-- the law's call, at the heap behind the module -/
theorem call_law {mb : Str → Option Value} {k : Nat} {fa a : Addr} {fd : FuncData} {x : Str} {sp : Sp} {s1 : Shared} {vs : List Value} {ns : List Int} (inn : K.In s1.heap) (gl : s1.heap.Ns mainGlobals mg) (bt : s1.heap.Ns builtinsNs mb) (bb : ∀ y : Str, y ≠ "__name__" → mb y = bootBuiltins y)
    (nol : s1.heap.NoLimit) (gen : s1.gens = #[]) (at1 : s1.heap.get? a = some { cls := .type "list", data := .seq vs.toArray }) (iv : IntsAre vs ns) (hn : ns.length ≤ sizeLine) (room : Room k callerA)
    (F : ∀ base : Heap, K.In base → base.Ns mainGlobals mg → FnG P w K mg base k fa fd [x] sp) (bind : BindsTo s1 fd ⟨[.ref a], []⟩ [(x, .ref a)])
    (want : ∀ H : Hp, Scr K H a ns → sp [.ref a] H (fun v _ => v = .bl true) fun _ _ _ => False) :
    codeAny (model P w) callerA (.call (.ref fa) ⟨[.ref a], []⟩) (fun r s2 => r = .ok (.ret (.bool true)) ∧ OldK s1.heap s2.heap ∧ s2.os = s1.os ∧ AllBare s2.gens) s1 := by
  have vals : Vals (ns.map V.int) vs := vals_ints iv
  -- H tracks nothing but the script, and that one not as a thing of the module
  have main : ∀ H : Hp, Only H → Scr K H a ns → HOk P w H s1.heap → (∀ b u, H b = some u → b = a ∧ K.lookup a = none) →
      codeAny (model P w) callerA (.call (.ref fa) ⟨[.ref a], []⟩) (fun r s2 => r = .ok (.ret (.bool true)) ∧ OldK s1.heap s2.heap ∧ s2.os = s1.os ∧ AllBare s2.gens) s1 := by
    intro H only scr hok one
    have free : ∀ {b : Addr} {o : Obj}, s1.heap.get? b = some o → (∀ xs n, o.data ≠ .seq xs n) → H b = none := by
      intro b o e ne
      cases q : H b with
      | none => rfl
      | some u =>
        obtain ⟨rfl, _⟩ := one b u q
        rw [at1] at e
        cases e
        exact absurd rfl (ne _ _)
    have space : ∀ {b : Addr} {m : Str → Option Value}, s1.heap.Ns b m → (hidT s1.heap H).Ns b m := by
      rintro b m ⟨o, es, ep, e, d, r⟩
      exact ⟨o, es, ep, hidT_get e (free e fun xs n z => by rw [d] at z; cases z), d, r⟩
    have innB : K.In (hidT s1.heap H) := by
      intro b o e
      refine hidT_get (inn b o e) ?_
      cases q : H b with
      | none => rfl
      | some u =>
        obtain ⟨rfl, z⟩ := one b u q
        rw [z] at e
        cases e
    have md : Mod K mg (hidT s1.heap H) := by
      refine ⟨innB, space gl, ⟨mb, space bt, bb⟩, ?_⟩
      obtain ⟨mc, l1, l2⟩ := nol
      exact ⟨mc, space l1, l2⟩
    have en : Env0 P w K mg (hidT s1.heap H) callerA [] s1 H := ⟨rfl, md, fun _ _ => of_hidT, Nat.le_of_eq (hidT_size _ _), trivial, fun _ z => absurd z (by simp [frs]), hok, .of_eq gen⟩
    have run := (F _ innB (space gl)).run callerA [] s1 H ⟨[.ref a], []⟩ [.ref a] [.ref a] _ _ rfl room en bind (.cons rfl .nil) (want H scr)
    refine codeAny_mono run ?_
    intro r s2 h
    cases r with
    | error e => exact (cx_false h).elim
    | ok fl =>
      cases fl with
      | ret u =>
        obtain ⟨v, H2, os, bare, un, hok2, rel, z⟩ := h
        have z : v = .bl true := z
        subst z
        obtain rfl : u = Value.bool true := rel
        refine ⟨rfl, OldK.of_keep ?_, os, bare⟩
        intro b o e
        rcases only b with z | ⟨ob, xs, z⟩
        · exact un.keep b o e z (by simp [frs]) (by simp)
        · have f1 := (hok b _ z).1
          rw [e] at f1
          cases f1
          exact (hok2 b _ (un.frzs b _ _ z)).1
      | next => exact h.elim
      | brk => exact h.elim
      | cont => exact h.elim
  cases own : K.lookup a with
  | none =>
    let rec_ : Obj := { cls := .type "list", data := .seq vs.toArray }
    let H0 : Hp := fun b => if b = a then some (.frz rec_ (.lst (ns.map V.int))) else none
    have h0 : H0 a = some (.frz rec_ (.lst (ns.map V.int))) := if_pos rfl
    have h1 : ∀ b, b ≠ a → H0 b = none := fun b hb => if_neg hb
    refine main H0 ?_ (.inl ⟨rec_, h0⟩) ?_ ?_
    · intro b
      by_cases hb : b = a
      · subst hb; exact .inr ⟨_, _, h0⟩
      · exact .inl (h1 b hb)
    · intro b u z
      by_cases hb : b = a
      · subst hb
        rw [h0] at z
        cases z
        exact ⟨at1, by rw [List.length_map]; exact hn, vs, _, vals, at1⟩
      · rw [h1 b hb] at z; cases z
    · intro b u z
      by_cases hb : b = a
      · exact ⟨hb, own⟩
      · rw [h1 b hb] at z; cases z
  | some o =>
    have e := inn a o own
    rw [at1] at e
    cases e
    refine main (fun _ => none) (fun _ => .inl rfl) (.inr fun H2 => .inr ⟨_, vs.toArray, _, own, rfl, rfl, rfl, ?_, by simpa using vals⟩) (fun b u z => by cases z) fun b u z => by cases z
    rw [List.size_toArray, iv.length]
    exact hn
/-- the law's promise -/
theorem spF_law {i : Nat} {n : Nat} {H : Hp} {a : Addr} {ns : List Int} {d1 : D} (hs : Scr K H a ns) (hr : run T.tbl T.fuel n i [.scr ns] = .ok (.bl true, d1)) :
    spF (sgAt K T Xe false n fun _ _ _ => False) i 1 [.ref a] H (fun v _ => v = .bl true) fun _ _ _ => False := by
  refine ⟨fun _ => False, fun _ _ => False, [.scr ns], ⟨rfl, fun j d q => ?_, fun _ _ _ _ z => z.elim, fun _ _ z => z.elim, fun _ _ z => z.elim, fun _ z => z.elim⟩, rfl, ?_⟩
  · cases j with
    | zero => cases q; exact ⟨.ref a, rfl, .scr hs⟩
    | succ j => simp at q
  · show Run _ _ _ H (run T.tbl T.fuel n i [.scr ns]) _
    rw [hr]
    intro v H2 ⟨_, _, _, _, _, t⟩
    exact t.blV
end
section
variable {l : PySem.W.OpenLaw} {n : Nat} {q : Program} {loose : List Str} {XP : (Str → Option Value) → Heap → Prop} {YP : World → Heap → Prop} {d : DefRec} {K : Params → PySem.W.Frag} {T : Tb} {Xe : Xo} {fe : Fe} {lvl : Nat}
/-- the goal that is left of a law: its names, its table, and that the evaluator answers True -/
theorem walkG (hn : l.most = some n) (hn2 : n ≤ sizeLine) (hdf : d.params.defaults = []) (hr : Room lvl callerA) (hY : ∀ (w : World) (h : Heap), YP w h → (K w.params).In h)
    (ok : ∀ (w : World) (mg : Str → Option Value) (fa : Addr) (h : Heap), (K w.params).In h → h.Ns mainGlobals mg → mg d.name = some (.ref fa) → NamesOk (K w.params) mg T)
    (hfe : T.fns.lookup d.name = some fe) (hps : fe.ps.length = 1) (law : ∀ ns : List Int, ns.length ≤ n → (∀ z, z ∈ ns → Builtin.Int.intBits z ≤ 1048576) → ∃ d1, run T.tbl T.fuel lvl fe.ix [.scr ns] = .ok (.bl true, d1)) :
    PySem.W.WalkO q loose XP YP l.row.toRowW d [] (fun f vs => PySem.call f vs) := by
  refine Att.attach_callB hn hdf fun w s0 s1 mg mb fa o pm cd doc a vs ns G Y ho hd hcd hm hobj hints hlen hbits hg => ?_
  have inn := hY w _ Y
  have nk := ok w mg fa _ inn G.T.g hm
  obtain ⟨f0, fd, m0, _, _, b0, _, oc, o2, sl, l0⟩ := levels (P := l.prog) (w := w) (base := s1.heap) (Xe := noXo) nk lvl d.name fe hfe
  rw [hm] at m0
  cases m0
  have F : ∀ base : Heap, (K w.params).In base → base.Ns mainGlobals mg → FnG l.prog w (K w.params) mg base lvl fa fd fe.ps (spF (sgAt (K w.params) T noXo false lvl fun _ _ _ => False) fe.ix fe.ps.length) := by
    intro base _ _
    obtain ⟨f1, fd1, m1, F1, _, _, _, oc1, o21, sl1, l1⟩ := levels (P := l.prog) (w := w) (base := base) (Xe := noXo) nk lvl d.name fe hfe
    rw [hm] at m1
    cases m1
    rw [l0] at l1
    cases l1
    exact F1
  match hp : fe.ps, hps with
  | [x], _ =>
    rw [hp] at F b0
    obtain ⟨d1, hrun⟩ := law ns hlen hbits
    refine call_law inn G.T.g G.T.b G.T.builtins G.T.nolimit hg hobj hints (Nat.le_trans hlen hn2) hr F (b0 s1 [.ref a] inn rfl) fun H hs => spF_law hs hrun
end
end KS
set_option linter.all false
set_option autoImplicit false
set_option maxRecDepth 100000
namespace KS
open PySem L2
/-! ### the evaluator, step by step (no program in sight) -/
@[simp] theorem bind_ok {α β : Type} (a : α) (f : α → R β) : (R.ok a >>= f) = f a := rfl
@[simp] theorem bind_exc' {α β : Type} (c : Str) (fs : List D) (f : α → R β) : ((R.exc c fs : R α) >>= f) = R.exc c fs := rfl
@[simp] theorem bind_bad {α β : Type} (f : α → R β) : ((R.bad : R α) >>= f) = R.bad := rfl
@[simp] theorem pure_ok {α : Type} (a : α) : (pure a : R α) = R.ok a := rfl
theorem evE_comp (C : Ctx) (elt : E) (ts : List Nat) (k : IK) (es c : E) (env : Env) : evE C (.comp elt ts k es c) env = (evI C k es env >>= fun p => noX (compL (turnC C elt ts c) p.1 p.2 []) >>= fun q => if decide (p.1.length ≤ line) = true then .ok (D.lst true q.1, wipeE q.2 ts) else .bad) := by
  unfold evI
  show (evL C es env >>= fun p => items k p.1 >>= fun xs => _) = _
  cases evL C es env with
  | ok p =>
    show (items k p.1 >>= fun xs => _) = ((items k p.1 >>= fun xs => R.ok (xs, p.2)) >>= _)
    cases items k p.1 <;> rfl
  | exc c fs => rfl
  | bad => rfl
theorem evS_for (C : Ctx) (ts : List Nat) (k : IK) (es : E) (b : S) (env : Env) : evS C (.for_ ts k es b) env = (evI C k es env >>= fun p => forL (turnF C ts b) p.1 p.2) := by
  unfold evI
  show (evL C es env >>= fun p => items k p.1 >>= fun xs => _) = _
  cases evL C es env with
  | ok p =>
    show (items k p.1 >>= fun xs => _) = ((items k p.1 >>= fun xs => R.ok (xs, p.2)) >>= _)
    cases items k p.1 <;> rfl
  | exc c fs => rfl
  | bad => rfl
theorem evE_comp2 (C : Ctx) (elt : E) (ts : List Nat) (k : IK) (es : E) (us : List Nat) (l : IK) (fs c : E) (env : Env) :
    evE C (.comp2 elt ts k es us l fs c) env = (evI C k es env >>= fun p => noX (compL2 (turnD C elt ts us l fs c) p.1 p.2 []) >>= fun q => .ok (D.lst true q.1, wipeE q.2 (ts ++ us))) := by
  have tt : (fun (x : D) (env : Env) (acc : List D) => (setT C (wipeE env (ts ++ us)) ts x >>= fun env => evL C fs env >>= fun p => items l p.1 >>= fun ys =>
      if decide (acc.length + ys.length ≤ line) = true then compL (turnC C elt us c) ys p.2 acc else .bad)) = turnD C elt ts us l fs c := by
    funext x env acc
    unfold turnD evI
    cases setT C (wipeE env (ts ++ us)) ts x with
    | bad => rfl
    | exc c fs => rfl
    | ok env2 =>
      show (evL C fs env2 >>= fun p => items l p.1 >>= fun ys => _) = ((evL C fs env2 >>= fun p => items l p.1 >>= fun xs => R.ok (xs, p.2)) >>= _)
      cases evL C fs env2 with
      | bad => rfl
      | exc c fs => rfl
      | ok p =>
        show (items l p.1 >>= fun ys => _) = ((items l p.1 >>= fun xs => R.ok (xs, p.2)) >>= _)
        cases items l p.1 <;> rfl
  rw [← tt]
  unfold evI
  show (evL C es env >>= fun p => items k p.1 >>= fun xs => _) = _
  cases evL C es env with
  | ok p =>
    show (items k p.1 >>= fun xs => _) = ((items k p.1 >>= fun xs => R.ok (xs, p.2)) >>= _)
    cases items k p.1 <;> rfl
  | exc c fs => rfl
  | bad => rfl
theorem seq_nx {C : Ctx} {s r : S} {env env1 : Env} (h : evS C s env = .ok (.nx env1)) : evS C (.seq s r) env = evS C r env1 := by
  show (evS C s env >>= fun o => _) = _
  rw [h]; rfl
theorem seq_ret {C : Ctx} {s r : S} {env env1 : Env} {d : D} (h : evS C s env = .ok (.ret d env1)) : evS C (.seq s r) env = .ok (.ret d env1) := by
  show (evS C s env >>= fun o => _) = _
  rw [h]; rfl
theorem ifs_t {C : Ctx} {c : E} {a b : S} {env env1 : Env} (h : evE C c env = .ok (.bl true, env1)) : evS C (.ifs c a b) env = evS C a env1 := by
  show (evE C c env >>= fun p => _) = _
  rw [h]; rfl
theorem ifs_f {C : Ctx} {c : E} {a b : S} {env env1 : Env} (h : evE C c env = .ok (.bl false, env1)) : evS C (.ifs c a b) env = evS C b env1 := by
  show (evE C c env >>= fun p => _) = _
  rw [h]; rfl
theorem or_f {C : Ctx} {a b : E} {env env1 : Env} (h : evE C a env = .ok (.bl false, env1)) : evE C (.or a b) env = evE C b env1 := by
  show (evE C a env >>= fun p => _) = _
  rw [h]; rfl
theorem or_t {C : Ctx} {a b : E} {env env1 : Env} (h : evE C a env = .ok (.bl true, env1)) : evE C (.or a b) env = .ok (.bl true, env1) := by
  show (evE C a env >>= fun p => _) = _
  rw [h]; rfl
theorem and_t {C : Ctx} {a b : E} {env env1 : Env} (h : evE C a env = .ok (.bl true, env1)) : evE C (.and a b) env = evE C b env1 := by
  show (evE C a env >>= fun p => _) = _
  rw [h]; rfl
theorem and_f {C : Ctx} {a b : E} {env env1 : Env} (h : evE C a env = .ok (.bl false, env1)) : evE C (.and a b) env = .ok (.bl false, env1) := by
  show (evE C a env >>= fun p => _) = _
  rw [h]; rfl
theorem asg_ok {C : Ctx} {e : E} {i : Nat} {d : D} {env env1 env2 : Env} (h : evE C e env = .ok (d, env1)) (hs : setE C env1 i d = .ok env2) : evS C (.asg i e) env = .ok (.nx env2) := by
  show (evE C e env >>= fun p => _) = _
  rw [h]
  show (setE C env1 i d >>= _) = _
  rw [hs]; rfl
theorem ret_ok {C : Ctx} {e : E} {d : D} {env env1 : Env} (hv : isVar e = false) (h : evE C e env = .ok (d, env1)) : evS C (.ret e) env = .ok (.ret d env1) := by
  show (evR C e env >>= fun p => _) = _
  rw [evR_ne hv, h]; rfl
theorem ex_ok {C : Ctx} {e : E} {d : D} {env env1 : Env} (h : evE C e env = .ok (d, env1)) : evS C (.ex e) env = .ok (.nx env1) := by
  show (evE C e env >>= fun p => _) = _
  rw [h]; rfl
theorem opA {C : Ctx} {p : Prim} {es : E} {ds : List D} {d : D} {env env1 : Env} (h : evA C es env = .ok (ds, env1)) (hp : prim p ds = .ok d) : evE C (.op p es) env = .ok (d, env1) := by
  show (evA C es env >>= fun q => _) = _
  rw [h]
  show opR p (lent es) ds env1 = _
  unfold opR
  rw [hp]
theorem nt_ok {C : Ctx} {a : E} {t : Bool} {env env1 : Env} (hb : isBor a = false) (h : evE C a env = .ok (.bl t, env1)) : evE C (.op .nt (.cons a .nil)) env = .ok (.bl (!t), env1) := by
  refine opA (ds := [.bl t]) ?_ rfl
  rw [evA_cons C hb, h]; rfl
theorem opOne {C : Ctx} {p : Prim} {a : E} {d r : D} {env env1 : Env} (h : evE C a env = .ok (d, env1)) (hp : prim p [d] = .ok r) (hb : isBor a = false) : evE C (.op p (.cons a .nil)) env = .ok (r, env1) := by
  refine opA (ds := [d]) ?_ hp
  rw [evA_cons C hb, h]; rfl
theorem set_eq {α : Type} : ∀ {l : List α} {i : Nat} {a : α}, l[i]? = some a → l.set i a = l
  | [], _, _, h => by simp at h
  | x :: l, 0, a, h => by simp at h; subst h; rfl
  | x :: l, i + 1, a, h => by
    show x :: l.set i a = x :: l
    rw [set_eq (by simpa using h)]
theorem var_ok {C : Ctx} {i : Nat} {d : D} {env : Env} (h : env[i]? = some (some d)) (hf : frz d = d) : evE C (.var i) env = .ok (d, env) := by
  show (getE env i >>= fun d => R.ok (frz d, env.set i (some (frz d)))) = _
  unfold getE
  rw [h]
  show R.ok (frz d, env.set i (some (frz d))) = _
  rw [hf, set_eq h]
theorem var_frz {C : Ctx} {i : Nat} {d d' : D} {env : Env} (h : env[i]? = some (some d)) (hf : frz d = d') : evE C (.var i) env = .ok (d', env.set i (some d')) := by
  show (getE env i >>= fun d => R.ok (frz d, env.set i (some (frz d)))) = _
  unfold getE
  rw [h]
  show R.ok (frz d, env.set i (some (frz d))) = _
  rw [hf]
theorem lst2 {C : Ctx} {a b : E} {d1 d2 : D} {env env1 env2 : Env} (h1 : evE C a env = .ok (d1, env1)) (h2 : evE C b env1 = .ok (d2, env2)) : evE C (.lst (.cons a (.cons b .nil))) env = .ok (.lst true [d1, d2], env2) := by
  show ((evE C a env >>= fun p => (evE C b p.2 >>= fun q => R.ok ([q.1], q.2)) >>= fun q => R.ok (p.1 :: q.1, q.2)) >>= fun p => if decide (p.1.length ≤ line) = true then R.ok (D.lst true p.1, p.2) else .bad) = _
  rw [h1]
  show (((evE C b env1 >>= fun q => R.ok ([q.1], q.2)) >>= fun q => R.ok (d1 :: q.1, q.2)) >>= fun p => if decide (p.1.length ≤ line) = true then R.ok (D.lst true p.1, p.2) else .bad) = _
  rw [h2]
  rfl
theorem lst3 {C : Ctx} {a b c : E} {d1 d2 d3 : D} {env env1 env2 env3 : Env} (h1 : evE C a env = .ok (d1, env1)) (h2 : evE C b env1 = .ok (d2, env2)) (h3 : evE C c env2 = .ok (d3, env3)) : evE C (.lst (.cons a (.cons b (.cons c .nil)))) env = .ok (.lst true [d1, d2, d3], env3) := by
  show ((evE C a env >>= fun p => (evE C b p.2 >>= fun q => (evE C c q.2 >>= fun r => R.ok ([r.1], r.2)) >>= fun r => R.ok (q.1 :: r.1, r.2)) >>= fun q => R.ok (p.1 :: q.1, q.2)) >>= fun p => if decide (p.1.length ≤ line) = true then R.ok (D.lst true p.1, p.2) else .bad) = _
  rw [h1]
  show (((evE C b env1 >>= fun q => (evE C c q.2 >>= fun r => R.ok ([r.1], r.2)) >>= fun r => R.ok (q.1 :: r.1, r.2)) >>= fun q => R.ok (d1 :: q.1, q.2)) >>= fun p => if decide (p.1.length ≤ line) = true then R.ok (D.lst true p.1, p.2) else .bad) = _
  rw [h2]
  show ((((evE C c env2 >>= fun r => R.ok ([r.1], r.2)) >>= fun r => R.ok (d2 :: r.1, r.2)) >>= fun q => R.ok (d1 :: q.1, q.2)) >>= fun p => if decide (p.1.length ≤ line) = true then R.ok (D.lst true p.1, p.2) else .bad) = _
  rw [h3]
  rfl
/-- two operands, none of them a lent name -/
theorem opTwo {C : Ctx} {p : Prim} {a b : E} {d1 d2 r : D} {env env1 env2 : Env} (h1 : evE C a env = .ok (d1, env1)) (h2 : evE C b env1 = .ok (d2, env2)) (hp : prim p [d1, d2] = .ok r) (ha : isBor a = false) (hb : isBor b = false) : evE C (.op p (.cons a (.cons b .nil))) env = .ok (r, env2) := by
  refine opA (ds := [d1, d2]) ?_ hp
  rw [evA_cons C ha, h1]
  show (evA C (.cons b .nil) env1 >>= fun q => R.ok (d1 :: q.1, q.2)) = _
  rw [evA_cons C hb, h2]; rfl
/-- the second one is a lent name -/
theorem opTwoB {C : Ctx} {p : Prim} {a : E} {i : Nat} {d1 d2 r : D} {env env1 : Env} (h1 : evE C a env = .ok (d1, env1)) (h2 : env1[i]? = some (some d2)) (hp : prim p [d1, d2] = .ok r) (ha : isBor a = false) : evE C (.op p (.cons a (.cons (.bor i) .nil))) env = .ok (r, env1) := by
  refine opA (ds := [d1, d2]) ?_ hp
  rw [evA_cons C ha, h1]
  have g : getE env1 i = .ok d2 := by unfold getE; rw [h2]
  show ((getE env1 i >>= fun _ => R.ok ([], env1) >>= fun q => getE q.2 i >>= fun d => R.ok (d :: q.1, q.2)) >>= fun q => R.ok (d1 :: q.1, q.2)) = _
  rw [g]
  show ((getE env1 i >>= fun d => R.ok ([d], env1)) >>= fun q => R.ok (d1 :: q.1, q.2)) = _
  rw [g]; rfl
/-- an operation on a lent name -/
theorem opBor {C : Ctx} {p : Prim} {i : Nat} {d r : D} {env : Env} (h : env[i]? = some (some d)) (hp : prim p [d] = .ok r) : evE C (.op p (.cons (.bor i) .nil)) env = .ok (r, env) := by
  have g : getE env i = .ok d := by unfold getE; rw [h]
  refine opA (ds := [d]) ?_ hp
  show (getE env i >>= fun _ => R.ok ([], env) >>= fun q => getE q.2 i >>= fun d => R.ok (d :: q.1, q.2)) = _
  rw [g]
  show (getE env i >>= fun d => R.ok ([d], env)) = _
  rw [g]; rfl
theorem repr_ok {d : D} (h : reprOk d = true) : prim .repr [d] = .ok (.str (toPy d).shown) := by
  show pRepr [d] = _
  unfold pRepr
  simp only [h, if_true]
theorem callA {C : Ctx} {f : Nat} {es : E} {ds : List D} {r d1 : D} {env env1 : Env} (hio : C.io f = false) (h : evA C es env = .ok (ds, env1)) (hr : C.run f (ds.map frz) = .ok (r, d1)) (hf : isFresh r = true) : evE C (.call f [] es) env = .ok (r, env1) := by
  show (evA C es env >>= fun p => perm [] p.1 >>= fun ds => if C.io f = true then _ else _) = _
  rw [h, hio]
  show (C.run f (ds.map frz) >>= fun q => _) = _
  rw [hr]
  show (if isFresh r = true then _ else _) = _
  rw [if_pos hf]
theorem callK {C : Ctx} {f : Nat} {pm : List Nat} {es : E} {ds ds2 : List D} {r d1 : D} {env env1 : Env} (hio : C.io f = false) (h : evA C es env = .ok (ds, env1)) (hp : perm pm ds = .ok ds2) (hr : C.run f (ds2.map frz) = .ok (r, d1)) (hf : isFresh r = true) : evE C (.call f pm es) env = .ok (r, env1) := by
  show (evA C es env >>= fun p => perm pm p.1 >>= fun ds => if C.io f = true then _ else _) = _
  rw [h]
  show (perm pm ds >>= fun ds => if C.io f = true then _ else _) = _
  rw [hp, hio]
  show (C.run f (ds2.map frz) >>= fun q => _) = _
  rw [hr]
  show (if isFresh r = true then _ else _) = _
  rw [if_pos hf]
theorem callIo {C : Ctx} {f i : Nat} {rest : E} {d0 r d1 : D} {ds : List D} {env env1 : Env} (hio : C.io f = true) (h : evA C (.cons (.bor i) rest) env = .ok (d0 :: ds, env1)) (hl : (lent rest).contains i = false) (hr : C.run f (d0 :: ds.map frz) = .ok (r, d1)) (hf : (allFlat d1 && isFresh r) = true) :
    evE C (.call f [] (.cons (.bor i) rest)) env = .ok (r, env1.set i (some d1)) := by
  rw [Bool.and_eq_true] at hf
  show (evA C (.cons (.bor i) rest) env >>= fun p => perm [] p.1 >>= fun ds => if C.io f = true then _ else _) = _
  rw [h, hio]
  show (if (lent rest).contains i = true then R.bad else C.run f (d0 :: ds.map frz) >>= fun q => _) = _
  rw [hl, if_neg Bool.false_ne_true, hr]
  show (if allFlat d1 = true then R.ok (r, if isFresh r = true then _ else _) else _) = _
  rw [if_pos hf.1, if_pos hf.2]
/-- a loop that goes on to its end -/
theorem forL_rel {α : Type} {turn : D → Env → R Out} {P : α → Env → Prop} {step : α → D → α} : ∀ {xs : List D} {a : α} {env : Env}, (∀ x a env, x ∈ xs → P a env → ∃ env', turn x env = .ok (.nx env') ∧ P (step a x) env') → P a env →
    ∃ env', forL turn xs env = .ok (.nx env') ∧ P (xs.foldl step a) env'
  | [], a, env, _, h => ⟨env, rfl, h⟩
  | x :: xs, a, env, ht, h => by
    obtain ⟨env1, h1, p1⟩ := ht x a env List.mem_cons_self h
    obtain ⟨env2, h2, p2⟩ := forL_rel (xs := xs) (fun y b e hy => ht y b e (List.mem_cons_of_mem _ hy)) p1
    refine ⟨env2, ?_, p2⟩
    unfold forL
    rw [h1]
    exact h2
/-- a loop that may return: for the first thing with stop, else it goes on -/
theorem forL_find {turn : D → Env → R Out} {P : Env → Prop} {stop : D → Bool} {d : D} : ∀ {xs : List D} {env : Env}, (∀ x env, x ∈ xs → P env → ∃ env', P env' ∧ turn x env = .ok (if stop x = true then .ret d env' else .nx env')) → P env →
    ∃ env', P env' ∧ forL turn xs env = .ok (if xs.any stop = true then .ret d env' else .nx env')
  | [], env, _, h => ⟨env, h, rfl⟩
  | x :: xs, env, ht, h => by
    obtain ⟨env1, p1, h1⟩ := ht x env List.mem_cons_self h
    unfold forL
    rw [h1]
    cases hs : stop x with
    | true => exact ⟨env1, p1, by simp [hs]⟩
    | false =>
      obtain ⟨env2, p2, h2⟩ := forL_find (xs := xs) (fun y e hy => ht y e (List.mem_cons_of_mem _ hy)) p1
      exact ⟨env2, p2, by simp [hs, h2]⟩
/-- a comprehension without side effects: one value for each thing -/
theorem compL_map {turn : D → Env → R (Option D × Env)} {P : Env → Prop} {g : D → D} : ∀ {xs : List D} {env : Env} {acc : List D}, (∀ x env, x ∈ xs → P env → ∃ env', turn x env = .ok (some (g x), env') ∧ P env') → P env →
    ∃ env', compL turn xs env acc = .ok (acc ++ xs.map g, env') ∧ P env'
  | [], env, acc, _, h => ⟨env, by simp [compL], h⟩
  | x :: xs, env, acc, ht, h => by
    obtain ⟨env1, h1, p1⟩ := ht x env List.mem_cons_self h
    obtain ⟨env2, h2, p2⟩ := compL_map (xs := xs) (acc := acc ++ [g x]) (fun y e hy => ht y e (List.mem_cons_of_mem _ hy)) p1
    refine ⟨env2, ?_, p2⟩
    unfold compL
    rw [h1]
    simp only [bind_ok]
    rw [h2, List.append_assoc]
    rfl
/-- a comprehension that leaves things out -/
theorem compL_filter {turn : D → Env → R (Option D × Env)} {P : Env → Prop} {g : D → Option D} : ∀ {xs : List D} {env : Env} {acc : List D}, (∀ x env, x ∈ xs → P env → ∃ env', turn x env = .ok (g x, env') ∧ P env') → P env →
    ∃ env', compL turn xs env acc = .ok (acc ++ xs.filterMap g, env') ∧ P env'
  | [], env, acc, _, h => ⟨env, by simp [compL], h⟩
  | x :: xs, env, acc, ht, h => by
    obtain ⟨env1, h1, p1⟩ := ht x env List.mem_cons_self h
    unfold compL
    rw [h1]
    cases hg : g x with
    | none =>
      obtain ⟨env2, h2, p2⟩ := compL_filter (xs := xs) (acc := acc) (fun y e hy => ht y e (List.mem_cons_of_mem _ hy)) p1
      exact ⟨env2, by simp [hg, h2], p2⟩
    | some y =>
      obtain ⟨env2, h2, p2⟩ := compL_filter (xs := xs) (acc := acc ++ [y]) (fun y e hy => ht y e (List.mem_cons_of_mem _ hy)) p1
      exact ⟨env2, by simp [hg, h2, List.append_assoc], p2⟩
/-- a comprehension that draws: m turns' worth of room -/
theorem compL_draw {turn : D → Env → R (Option D × Env)} {P : Nat → Env → Prop} {Qy : D → Prop} {c : Nat} : ∀ {xs : List D} {m : Nat} {env : Env} {acc : List D}, (∀ x m env, x ∈ xs → P (m + c) env → ∃ y env', turn x env = .ok (some y, env') ∧ P m env' ∧ Qy y) → P (m + c * xs.length) env →
    ∃ ys env', compL turn xs env acc = .ok (acc ++ ys, env') ∧ P m env' ∧ ys.length = xs.length ∧ ∀ y, y ∈ ys → Qy y
  | [], m, env, acc, _, h => ⟨[], env, by simp [compL], by simpa using h, rfl, by simp⟩
  | x :: xs, m, env, acc, ht, h => by
    have e : m + c * (x :: xs).length = (m + c * xs.length) + c := by simp [Nat.mul_succ, Nat.add_assoc]
    rw [e] at h
    obtain ⟨y, env1, h1, p1, q1⟩ := ht x _ env List.mem_cons_self h
    obtain ⟨ys, env2, h2, p2, l2, q2⟩ := compL_draw (xs := xs) (m := m) (acc := acc ++ [y]) (fun y m e hy => ht y m e (List.mem_cons_of_mem _ hy)) p1
    refine ⟨y :: ys, env2, ?_, p2, by simp [l2], fun z hz => ?_⟩
    · unfold compL
      rw [h1]
      simp only [bind_ok]
      rw [h2, List.append_assoc]
      rfl
    · rcases List.mem_cons.mp hz with rfl | hz
      · exact q1
      · exact q2 z hz
/-- .. over things that are made from others -/
theorem forL_map {α β : Type} {turn : D → Env → R Out} {P : α → Env → Prop} {step : α → β → α} {f : β → D} {l : List β} {a : α} {env : Env} (ht : ∀ y a env, y ∈ l → P a env → ∃ env', turn (f y) env = .ok (.nx env') ∧ P (step a y) env') (h : P a env) :
    ∃ env', forL turn (l.map f) env = .ok (.nx env') ∧ P (l.foldl step a) env' := by
  induction l generalizing a env with
  | nil => exact ⟨env, rfl, h⟩
  | cons y l ih =>
    obtain ⟨env1, h1, p1⟩ := ht y a env List.mem_cons_self h
    obtain ⟨env2, h2, p2⟩ := ih (fun z b e hz => ht z b e (List.mem_cons_of_mem _ hz)) p1
    refine ⟨env2, ?_, p2⟩
    rw [List.map_cons]
    unfold forL
    rw [h1]
    exact h2
theorem forL_findM {β : Type} {turn : D → Env → R Out} {P : Env → Prop} {stop : β → Bool} {d : D} {f : β → D} {l : List β} {env : Env} (ht : ∀ y env, y ∈ l → P env → ∃ env', P env' ∧ turn (f y) env = .ok (if stop y = true then .ret d env' else .nx env')) (h : P env) :
    ∃ env', P env' ∧ forL turn (l.map f) env = .ok (if l.any stop = true then .ret d env' else .nx env') := by
  induction l generalizing env with
  | nil => exact ⟨env, h, rfl⟩
  | cons y l ih =>
    obtain ⟨env1, p1, h1⟩ := ht y env List.mem_cons_self h
    rw [List.map_cons]
    unfold forL
    rw [h1]
    cases hs : stop y with
    | true => exact ⟨env1, p1, by simp [hs]⟩
    | false =>
      obtain ⟨env2, p2, h2⟩ := ih (fun z e hz => ht z e (List.mem_cons_of_mem _ hz)) p1
      exact ⟨env2, p2, by simp [hs, h2]⟩
/-- .. by what is left -/
theorem forL_sfx {β : Type} {turn : D → Env → R Out} {P : List β → Env → Prop} {f : β → D} (ht : ∀ y l env, P (y :: l) env → ∃ env', turn (f y) env = .ok (.nx env') ∧ P l env') : ∀ {l : List β} {env : Env}, P l env → ∃ env', forL turn (l.map f) env = .ok (.nx env') ∧ P [] env'
  | [], env, h => ⟨env, rfl, h⟩
  | y :: l, env, h => by
    obtain ⟨env1, h1, p1⟩ := ht y l env h
    obtain ⟨env2, h2, p2⟩ := forL_sfx ht p1
    refine ⟨env2, ?_, p2⟩
    rw [List.map_cons]
    unfold forL
    rw [h1]
    exact h2
theorem turnF_ok {C : Ctx} {ts : List Nat} {b : S} {x : D} {env env1 : Env} (h : setT C env ts x = .ok env1) : turnF C ts b x env = evS C b env1 := by
  unfold turnF
  rw [h]; rfl
theorem for_nx {C : Ctx} {ts : List Nat} {k : IK} {es : E} {b : S} {env e0 env' : Env} {xs : List D} (hI : evI C k es env = .ok (xs, e0)) (h : forL (turnF C ts b) xs e0 = .ok (.nx env')) : evS C (.for_ ts k es b) env = .ok (.nx env') := by
  rw [evS_for, hI]
  exact h
theorem compL_mapM {β : Type} {turn : D → Env → R (Option D × Env)} {P : Env → Prop} {f : β → D} {g : β → D} {l : List β} {env : Env} {acc : List D} (ht : ∀ y env, y ∈ l → P env → ∃ env', turn (f y) env = .ok (some (g y), env') ∧ P env') (h : P env) :
    ∃ env', compL turn (l.map f) env acc = .ok (acc ++ l.map g, env') ∧ P env' := by
  induction l generalizing env acc with
  | nil => exact ⟨env, by simp [compL], h⟩
  | cons y l ih =>
    obtain ⟨env1, h1, p1⟩ := ht y env List.mem_cons_self h
    obtain ⟨env2, h2, p2⟩ := ih (acc := acc ++ [g y]) (fun z e hz => ht z e (List.mem_cons_of_mem _ hz)) p1
    refine ⟨env2, ?_, p2⟩
    rw [List.map_cons]
    unfold compL
    rw [h1]
    simp only [bind_ok]
    rw [h2, List.append_assoc]
    rfl
theorem compL_filterM {β : Type} {turn : D → Env → R (Option D × Env)} {P : Env → Prop} {f : β → D} {g : β → Option D} {l : List β} {env : Env} {acc : List D} (ht : ∀ y env, y ∈ l → P env → ∃ env', turn (f y) env = .ok (g y, env') ∧ P env') (h : P env) :
    ∃ env', compL turn (l.map f) env acc = .ok (acc ++ l.filterMap g, env') ∧ P env' := by
  induction l generalizing env acc with
  | nil => exact ⟨env, by simp [compL], h⟩
  | cons y l ih =>
    obtain ⟨env1, h1, p1⟩ := ht y env List.mem_cons_self h
    rw [List.map_cons]
    unfold compL
    rw [h1]
    cases hg : g y with
    | none =>
      obtain ⟨env2, h2, p2⟩ := ih (acc := acc) (fun z e hz => ht z e (List.mem_cons_of_mem _ hz)) p1
      exact ⟨env2, by simp [hg, h2], p2⟩
    | some z =>
      obtain ⟨env2, h2, p2⟩ := ih (acc := acc ++ [z]) (fun z e hz => ht z e (List.mem_cons_of_mem _ hz)) p1
      exact ⟨env2, by simp [hg, h2, List.append_assoc], p2⟩
/-- one clause within another -/
theorem compL2_mapM {β : Type} {turn : D → Env → List D → R (List D × Env)} {P : Env → Prop} {f : β → D} {g : β → List D} {l : List β} {env : Env} {acc : List D} {bnd : Nat} (ht : ∀ y env acc, y ∈ l → P env → acc.length + (g y).length ≤ bnd → ∃ env', turn (f y) env acc = .ok (acc ++ g y, env') ∧ P env') (h : P env) (hb : acc.length + (l.flatMap g).length ≤ bnd) :
    ∃ env', compL2 turn (l.map f) env acc = .ok (acc ++ l.flatMap g, env') ∧ P env' := by
  induction l generalizing env acc with
  | nil => exact ⟨env, by simp [compL2], h⟩
  | cons y l ih =>
    rw [List.flatMap_cons, List.length_append] at hb
    obtain ⟨env1, h1, p1⟩ := ht y env acc List.mem_cons_self h (by omega)
    obtain ⟨env2, h2, p2⟩ := ih (acc := acc ++ g y) (fun z e a hz => ht z e a (List.mem_cons_of_mem _ hz)) p1 (by rw [List.length_append]; omega)
    refine ⟨env2, ?_, p2⟩
    rw [List.map_cons]
    unfold compL2
    rw [h1]
    simp only [bind_ok]
    rw [h2, List.append_assoc, List.flatMap_cons]
/-- a while loop with a measure -/
theorem whileL_rel {cnd : Env → R (D × Env)} {body : Env → R Out} {P : Nat → Env → Prop} {Fin : Env → Prop} (ht : ∀ m env, P m env → ∃ t env1, cnd env = .ok (.bl t, env1) ∧ if t = true then ∃ k env2, body env1 = .ok (.nx env2) ∧ k < m ∧ P k env2 else Fin env1) :
    ∀ (m fuel : Nat) (env : Env), m < fuel → P m env → ∃ env', whileL cnd body fuel env = .ok (.nx env') ∧ Fin env' := by
  intro m
  induction m using Nat.strongRecOn with
  | ind m ih =>
    intro fuel env hf hp
    cases fuel with
    | zero => omega
    | succ fuel =>
      obtain ⟨t, env1, h1, h2⟩ := ht m env hp
      unfold whileL
      rw [h1]
      cases t with
      | false => exact ⟨env1, rfl, by simpa using h2⟩
      | true =>
        simp only [if_true] at h2
        obtain ⟨k, env2, h3, h4, h5⟩ := h2
        obtain ⟨env3, h6, h7⟩ := ih k h4 fuel env2 (by omega) h5
        refine ⟨env3, ?_, h7⟩
        simp only [bind_ok, KS.truth, if_true]
        rw [h3]
        exact h6
theorem evI_seq {C : Ctx} {e : E} {k : IK} {d : D} {xs : List D} {env env1 : Env} (h : evE C e env = .ok (d, env1)) (hi : items k [d] = .ok xs) : evI C k (.cons e .nil) env = .ok (xs, env1) := by
  unfold evI
  show ((evE C e env >>= fun p => R.ok ([p.1], p.2)) >>= fun p => _) = _
  rw [h]
  show (items k [d] >>= fun xs => R.ok (xs, env1)) = _
  rw [hi]; rfl
theorem evI_two {C : Ctx} {a b : E} {k : IK} {d1 d2 : D} {xs : List D} {env env1 env2 : Env} (h1 : evE C a env = .ok (d1, env1)) (h2 : evE C b env1 = .ok (d2, env2)) (hi : items k [d1, d2] = .ok xs) : evI C k (.cons a (.cons b .nil)) env = .ok (xs, env2) := by
  unfold evI
  show ((evE C a env >>= fun p => (evE C b p.2 >>= fun q => R.ok ([q.1], q.2)) >>= fun q => R.ok (p.1 :: q.1, q.2)) >>= fun p => _) = _
  rw [h1]
  show (((evE C b env1 >>= fun q => R.ok ([q.1], q.2)) >>= fun q => R.ok (d1 :: q.1, q.2)) >>= fun p => _) = _
  rw [h2]
  show (items k [d1, d2] >>= fun xs => R.ok (xs, env2)) = _
  rw [hi]; rfl
/-- a comprehension without side effects -/
theorem comp_map {β : Type} {C : Ctx} {elt c es : E} {ts : List Nat} {k : IK} {f g : β → D} {l : List β} {env e0 : Env} (hI : evI C k es env = .ok (l.map f, e0))
    (ht : ∀ y, y ∈ l → ∃ e1 e2 e3, setT C (wipeE e0 ts) ts (f y) = .ok e1 ∧ evE C c e1 = .ok (.bl true, e2) ∧ evE C elt e2 = .ok (g y, e3) ∧ wipeE e3 ts = wipeE e0 ts) (hl : l.length ≤ line) :
    evE C (.comp elt ts k es c) env = .ok (.lst true (l.map g), wipeE e0 ts) := by
  rw [evE_comp, hI]
  simp only [bind_ok]
  obtain ⟨env', h1, h2⟩ := compL_mapM (turn := turnC C elt ts c) (P := fun env => wipeE env ts = wipeE e0 ts) (f := f) (g := g) (l := l) (env := e0) (acc := []) (fun y env hy he => by
    obtain ⟨e1, e2, e3, a1, a2, a3, a4⟩ := ht y hy
    refine ⟨e3, ?_, a4⟩
    unfold turnC
    rw [he, a1]; simp only [bind_ok]
    rw [a2]; simp only [bind_ok, KS.truth, if_true]
    rw [a3]; rfl) rfl
  rw [h1]
  simp [noX, hl, h2]
theorem comp_filter {β : Type} {C : Ctx} {elt c es : E} {ts : List Nat} {k : IK} {f g : β → D} {q : β → Bool} {l : List β} {env e0 : Env} (hI : evI C k es env = .ok (l.map f, e0))
    (ht : ∀ y, y ∈ l → ∃ e1 e2 e3, setT C (wipeE e0 ts) ts (f y) = .ok e1 ∧ evE C c e1 = .ok (.bl (q y), e2) ∧ wipeE e2 ts = wipeE e0 ts ∧ (q y = true → evE C elt e2 = .ok (g y, e3) ∧ wipeE e3 ts = wipeE e0 ts)) (hl : l.length ≤ line) :
    evE C (.comp elt ts k es c) env = .ok (.lst true ((l.filter q).map g), wipeE e0 ts) := by
  rw [evE_comp, hI]
  simp only [bind_ok]
  obtain ⟨env', h1, h2⟩ := compL_filterM (turn := turnC C elt ts c) (P := fun env => wipeE env ts = wipeE e0 ts) (f := f) (g := fun y => if q y = true then some (g y) else none) (l := l) (env := e0) (acc := []) (fun y env hy he => by
    obtain ⟨e1, e2, e3, a1, a2, a5, a3⟩ := ht y hy
    unfold turnC
    rw [he, a1]; simp only [bind_ok]
    rw [a2]; simp only [bind_ok, KS.truth]
    cases hq : q y with
    | true =>
      obtain ⟨a3, a4⟩ := a3 hq
      simp only [if_true]
      rw [a3]
      exact ⟨e3, rfl, a4⟩
    | false => exact ⟨e2, rfl, a5⟩) rfl
  have hf : l.filterMap (fun y => if q y = true then some (g y) else none) = (l.filter q).map g := by
    clear hI ht hl h1
    induction l with
    | nil => rfl
    | cons y l ih => cases hq : q y <;> simp [hq, ih]
  rw [h1, hf]
  simp [noX, hl, h2]
theorem comp2_map {β γ : Type} {C : Ctx} {elt c es fs : E} {ts us : List Nat} {k j : IK} {f : β → D} {m : β → List γ} {h g : γ → D} {l : List β} {env e0 : Env} (hI : evI C k es env = .ok (l.map f, e0))
    (ht : ∀ y, y ∈ l → ∃ e1 e2, setT C (wipeE e0 (ts ++ us)) ts (f y) = .ok e1 ∧ evI C j fs e1 = .ok ((m y).map h, e2) ∧ wipeE (wipeE e2 us) ts = wipeE e0 (ts ++ us) ∧
      ∀ z, z ∈ m y → ∃ a1 a2 a3, setT C (wipeE e2 us) us (h z) = .ok a1 ∧ evE C c a1 = .ok (.bl true, a2) ∧ evE C elt a2 = .ok (g z, a3) ∧ wipeE a3 us = wipeE e2 us) (hl : (l.flatMap m).length ≤ line) :
    evE C (.comp2 elt ts k es us j fs c) env = .ok (.lst true ((l.flatMap m).map g), wipeE e0 (ts ++ us)) := by
  rw [evE_comp2, hI]
  simp only [bind_ok]
  have hfm : (l.flatMap fun y => (m y).map g) = (l.flatMap m).map g := by rw [List.map_flatMap]
  obtain ⟨env', h1, h2⟩ := compL2_mapM (turn := turnD C elt ts us j fs c) (P := fun env => wipeE env (ts ++ us) = wipeE e0 (ts ++ us)) (f := f) (g := fun y => (m y).map g) (l := l) (env := e0) (acc := []) (bnd := line) (fun y env acc hy he hb => by
    obtain ⟨e1, e2, a1, a2, a3, a4⟩ := ht y hy
    obtain ⟨env3, b1, b2⟩ := compL_mapM (turn := turnC C elt us c) (P := fun env => wipeE env us = wipeE e2 us) (f := h) (g := g) (l := m y) (env := e2) (acc := acc) (fun z env hz hez => by
      obtain ⟨c1, c2, c3, d1, d2, d3, d4⟩ := a4 z hz
      refine ⟨c3, ?_, d4⟩
      unfold turnC
      rw [hez, d1]; simp only [bind_ok]
      rw [d2]; simp only [bind_ok, KS.truth, if_true]
      rw [d3]; rfl) rfl
    refine ⟨env3, ?_, by rw [wipeE_app, b2, a3]⟩
    unfold turnD
    rw [he, a1]; simp only [bind_ok]
    rw [a2]; simp only [bind_ok]
    have : acc.length + ((m y).map h).length ≤ line := by simpa using hb
    rw [if_pos (decide_eq_true this)]
    exact b1) rfl (by rw [hfm]; simpa using hl)
  rw [h1, hfm]
  simp [noX, h2]
/-! ### lists of ints -/
theorem cut_to {α : Type} (xs : List α) (k : Nat) (h : k ≤ xs.length) : cut xs none (some (k : Int)) = xs.take k := by
  unfold cut sIx
  have : ¬ ((k : Int) < 0) := by omega
  simp [this]
theorem cut_from {α : Type} (xs : List α) (k : Nat) (h : k ≤ xs.length) : cut xs (some (k : Int)) none = xs.drop k := by
  unfold cut sIx
  have : ¬ ((k : Int) < 0) := by omega
  simp only [this, if_false, Int.toNat_natCast, Nat.min_eq_left h]
  exact List.take_of_length_le (by rw [List.length_drop]; exact Nat.le_refl _)
theorem pIn_int (neg o : Bool) (p : Int) (xs : List Int) : pIn neg [.int p, .lst o (xs.map .int)] = .ok (.bl (if neg = true then !(xs.contains p) else xs.contains p)) := by
  have h1 : (xs.map D.int).all flat = true := by simp [flat]
  have h2 : (xs.map D.int).any (fun y => eqF y (.int p)) = xs.contains p := by
    induction xs with
    | nil => rfl
    | cons x xs ih =>
      rw [List.map_cons, List.any_cons, List.contains_cons, ih (by simp [flat])]
      congr 1
      show (x == p) = (p == x)
      exact Bool.beq_comm
  simp only [pIn, flat, h1, Bool.and_self, if_true, h2]
def il (o : Bool) (ns : List Int) : D := .lst o (ns.map .int)
theorem frzL_int (ns : List Int) : frzL (ns.map .int) = ns.map .int := by
  induction ns with
  | nil => rfl
  | cons n ns ih => simp [frzL, frz, ih]
theorem noOwnL_int (ns : List Int) : noOwnL (ns.map .int) = true := by
  induction ns with
  | nil => rfl
  | cons n ns ih => simp [noOwnL, noOwn, ih]
theorem isFreshL_int (ns : List Int) : isFreshL (ns.map .int) = true := by
  induction ns with
  | nil => rfl
  | cons n ns ih => simp [isFreshL, isFresh, ih]
@[simp] theorem frz_il (o : Bool) (ns : List Int) : frz (il o ns) = il false ns := by simp [il, frz, frzL_int]
@[simp] theorem fresh_il (ns : List Int) : isFresh (il true ns) = true := by simp [il, isFresh, isFreshL_int]
theorem intL_int (ns : List Int) : intL (ns.map .int) = some ns := by
  induction ns with
  | nil => rfl
  | cons n ns ih => simp [intL, ih]
end KS
set_option Elab.async false
set_option linter.all false
set_option autoImplicit false
set_option maxRecDepth 100000
namespace KS
open PySem L2
/-! ### what has to hold for a run to end well: step by step, from the head -/
/-- what comes behind is not looked at before its turn -/
structure Dum {α : Type} (Q : α → Prop) : Type
def Ok {α : Type} (r : R α) (Q : α → Prop) (_ : Dum Q := ⟨⟩) : Prop := match r with | .ok a => Q a | _ => False
section
variable {α β : Type} {C : Ctx} {env : Env}
theorem Ok.elim {r : R α} {Q : α → Prop} (h : Ok r Q) : ∃ a, r = .ok a ∧ Q a := by
  cases r with
  | ok a => exact ⟨a, rfl, h⟩
  | exc c fs => exact False.elim h
  | bad => exact False.elim h
theorem Ok.intro {r : R α} {Q : α → Prop} {a : α} (h : r = .ok a) (q : Q a) : Ok r Q := by rw [h]; exact q
theorem Ok.eq {r : R α} {a : α} (h : Ok r fun x => x = a) : r = .ok a := by obtain ⟨b, e, rfl⟩ := h.elim; exact e
theorem Ok.mono {r : R α} {Q Q' : α → Prop} (h : Ok r Q) (hq : ∀ a, Q a → Q' a) : Ok r Q' := by obtain ⟨a, e, q⟩ := h.elim; exact .intro e (hq a q)
theorem ok_ok (a : α) (Q : α → Prop) : Ok (R.ok a) Q = Q a := id rfl
theorem ok_of {r : R α} {a : α} (h : r = .ok a) (Q : α → Prop) : Ok r Q = Q a := by rw [h]; rfl
theorem okc {r : R α} {Q Q' : α → Prop} (h : ∀ a, Q a = Q' a) : Ok r Q = Ok r Q' := by rw [show Q = Q' from funext h]
theorem ok_bind (x : R α) (f : α → R β) (Q : β → Prop) : Ok (x >>= f) Q = Ok x fun a => Ok (f a) Q := by cases x <;> rfl
/-- a name's thing -/
def getK : Env → Nat → (D → Prop) → Prop
  | some d :: _, 0, K => K d
  | none :: _, 0, _ => False
  | _ :: env, i + 1, K => getK env i K
  | [], _, _ => False
theorem getK_z (d : D) (env : Env) (K : D → Prop) : getK (some d :: env) 0 K = K d := id rfl
theorem getK_s (x : Option D) (env : Env) (i : Nat) (K : D → Prop) : getK (x :: env) (i + 1) K = getK env i K := by cases x <;> rfl
theorem gtc {i : Nat} {Q Q' : D → Prop} (h : ∀ a, Q a = Q' a) : getK env i Q = getK env i Q' := by rw [show Q = Q' from funext h]
theorem ok_getE : ∀ (env : Env) (i : Nat) (K : D → Prop), Ok (getE env i) K = getK env i K
  | [], _, _ => rfl
  | none :: _, 0, _ => rfl
  | some _ :: _, 0, _ => rfl
  | x :: env, i + 1, K => by
    rw [getK_s, ← ok_getE env i K]; rfl
/-- a name is set anew -/
def setK : Env → Nat → D → (Env → Prop) → Prop
  | _ :: env, 0, d, K => K (some d :: env)
  | x :: env, i + 1, d, K => setK env i d fun e => K (x :: e)
  | [], _, _, _ => False
theorem setK_z (x : Option D) (env : Env) (d : D) (K : Env → Prop) : setK (x :: env) 0 d K = K (some d :: env) := id rfl
theorem setK_s (x : Option D) (env : Env) (i : Nat) (d : D) (K : Env → Prop) : setK (x :: env) (i + 1) d K = setK env i d fun e => K (x :: e) := id rfl
theorem setK_eq : ∀ (env : Env) (i : Nat) (d : D) (K : Env → Prop), setK env i d K = (i < env.length ∧ K (env.set i (some d)))
  | [], _, _, _ => by simp [setK]
  | x :: env, 0, d, K => by simp [setK]
  | x :: env, i + 1, d, K => by rw [setK_s, setK_eq env i d]; simp
theorem ok_setE (h : C.fx = false) (i : Nat) (d : D) (K : Env → Prop) : Ok (setE C env i d) K = setK env i d K := by
  rw [setK_eq]
  unfold setE
  by_cases hi : i < env.length <;> simp [h, hi, Ok]
theorem ok_setE1 (i : Nat) (d : D) (K : Env → Prop) : Ok (setE C env (i + 1) d) K = setK env (i + 1) d K := by
  rw [setK_eq]
  unfold setE
  by_cases hi : i + 1 < env.length <;> simp [hi, Ok]
/-- a name's thing is changed in place -/
theorem set_K (env : Env) (i : Nat) (d : D) (K : Env → Prop) (h : getK env i fun _ => True) : setK env i d K = K (env.set i (some d)) := by
  rw [setK_eq]
  have : i < env.length := by
    revert h
    induction env generalizing i with
    | nil => intro h; exact h.elim
    | cons x env ih =>
      cases i with
      | zero => intro _; simp
      | succ i => intro h; rw [getK_s] at h; have := ih i h; simpa using this
  simp [this]
theorem getK_mem {i : Nat} {K : D → Prop} (h : getK env i K) : ∃ d, getE env i = .ok d ∧ K d ∧ i < env.length := by
  rw [← ok_getE] at h
  obtain ⟨d, e, k⟩ := h.elim
  refine ⟨d, e, k, ?_⟩
  have := getE_ok e
  exact (List.getElem?_eq_some_iff.mp this).1
/-- read a name, go on, and change it in place: K tells what stands there then -/
theorem ok_getset {γ : Type} (i : Nat) (f : D → R (γ × D)) (Q : γ × Env → Prop) : Ok (getE env i >>= fun w => f w >>= fun d => R.ok (d.1, env.set i (some d.2))) Q = getK env i fun w => Ok (f w) fun d => setK env i d.2 fun e => Q (d.1, e) := by
  rw [ok_bind, ok_getE]
  induction env generalizing i Q with
  | nil => rfl
  | cons x env ih =>
    cases i with
    | zero =>
      cases x with
      | none => rfl
      | some w => show Ok (f w >>= _) Q = Ok (f w) _; rw [ok_bind]; rfl
    | succ i =>
      rw [getK_s, getK_s]
      have e : (fun w => Ok (f w >>= fun d => R.ok (d.1, (x :: env).set (i + 1) (some d.2))) Q) = fun w => Ok (f w >>= fun d => R.ok (d.1, env.set i (some d.2))) fun e => Q (e.1, x :: e.2) := by
        funext w
        rw [ok_bind, ok_bind]; rfl
      rw [e]
      exact ih i _
theorem ok_guard (b : Bool) (x : R α) (Q : α → Prop) : Ok (if b = true then x else .bad) Q = (b = true ∧ Ok x Q) := by cases b <;> simp [Ok]
/-! expressions -/
def trK (d : D) (K : Bool → Prop) : Prop := match d with | .bl b => K b | _ => False
theorem trK_bl (b : Bool) (K : Bool → Prop) : trK (.bl b) K = K b := id rfl
theorem trc {d : D} {Q Q' : Bool → Prop} (h : ∀ a, Q a = Q' a) : trK d Q = trK d Q' := by rw [show Q = Q' from funext h]
theorem ok_truth (d : D) (K : Bool → Prop) : Ok (truth d) K = trK d K := by cases d <;> rfl
/-- two ways -/
def brK (b : Bool) (A B : Prop) : Prop := match b with | true => A | false => B
theorem brK_t (A B : Prop) : brK true A B = A := id rfl
theorem brK_f (A B : Prop) : brK false A B = B := id rfl
theorem brK_dec (p : Prop) [Decidable p] (A B : Prop) : brK (decide p) A B = ((p → A) ∧ (¬ p → B)) := by
  by_cases h : p <;> simp [h, brK]
theorem brK_not (b : Bool) (A B : Prop) : brK (!b) A B = brK b B A := by cases b <;> rfl
theorem brK_b (b : Bool) (A B : Prop) : brK b A B = ((b = true → A) ∧ (b = false → B)) := by cases b <;> simp [brK]
theorem ok_ite (b : Bool) (x y : R α) (Q : α → Prop) : Ok (if b = true then x else y) Q = brK b (Ok x Q) (Ok y Q) := by cases b <;> rfl
theorem ok_lit (d : D) (Q : D × Env → Prop) : Ok (evE C (.lit d) env) Q = Q (d, env) := id rfl
/-- no more owned -/
def fzK (d : D) (K : D → Prop) : Prop := K (frz d)
theorem fzK_of {d d' : D} (h : frz d = d') (K : D → Prop) : fzK d K = K d' := by unfold fzK; rw [h]
theorem fzK_int (a : Int) (K : D → Prop) : fzK (.int a) K = K (.int a) := id rfl
theorem fzK_bl (a : Bool) (K : D → Prop) : fzK (.bl a) K = K (.bl a) := id rfl
theorem fzK_non (K : D → Prop) : fzK .non K = K .non := id rfl
theorem fzK_str (a : Str) (K : D → Prop) : fzK (.str a) K = K (.str a) := id rfl
theorem fzK_scr (a : List Int) (K : D → Prop) : fzK (.scr a) K = K (.scr a) := id rfl
theorem fzK_il (o : Bool) (a : List Int) (K : D → Prop) : fzK (il o a) K = K (il false a) := fzK_of (frz_il o a) K
theorem ok_var (i : Nat) (Q : D × Env → Prop) : Ok (evE C (.var i) env) Q = getK env i fun d => fzK d fun d => setK env i d fun e => Q (d, e) := by
  show Ok (getE env i >>= fun d => R.ok (frz d, env.set i (some (frz d)))) Q = _
  rw [ok_bind, ok_getE]
  induction env generalizing i Q with
  | nil => rfl
  | cons x env ih =>
    cases i with
    | zero => cases x <;> rfl
    | succ i =>
      rw [getK_s, getK_s]
      exact ih i fun p => Q (p.1, x :: p.2)
def opK (p : Prim) (ln : List Nat) (ds : List D) (env : Env) (Q : D × Env → Prop) (_ : Dum Q := ⟨⟩) : Prop := Ok (opR p ln ds env) Q
theorem ok_op (p : Prim) (es : E) (Q : D × Env → Prop) : Ok (evE C (.op p es) env) Q = Ok (evA C es env) fun q => opK p (lent es) q.1 q.2 Q := by
  show Ok (evA C es env >>= fun q => opR p (lent es) q.1 q.2) Q = _
  rw [ok_bind]; rfl
theorem ok_and (a b : E) (Q : D × Env → Prop) : Ok (evE C (.and a b) env) Q = Ok (evE C a env) fun p => trK p.1 fun t => brK t (Ok (evE C b p.2) Q) (Q (.bl false, p.2)) := by
  show Ok (evE C a env >>= fun p => truth p.1 >>= fun t => if t = true then evE C b p.2 else R.ok (.bl false, p.2)) Q = _
  rw [ok_bind]; (first | refine okc fun p => ?_ | refine gtc fun p => ?_ | refine trc fun p => ?_); rw [ok_bind, ok_truth]; (first | refine okc fun t => ?_ | refine gtc fun t => ?_ | refine trc fun t => ?_); rw [ok_ite]; rfl
theorem ok_or (a b : E) (Q : D × Env → Prop) : Ok (evE C (.or a b) env) Q = Ok (evE C a env) fun p => trK p.1 fun t => brK t (Q (.bl true, p.2)) (Ok (evE C b p.2) Q) := by
  show Ok (evE C a env >>= fun p => truth p.1 >>= fun t => if t = true then R.ok (.bl true, p.2) else evE C b p.2) Q = _
  rw [ok_bind]; (first | refine okc fun p => ?_ | refine gtc fun p => ?_ | refine trc fun p => ?_); rw [ok_bind, ok_truth]; (first | refine okc fun t => ?_ | refine gtc fun t => ?_ | refine trc fun t => ?_); rw [ok_ite]; rfl
theorem ok_ife (c a b : E) (Q : D × Env → Prop) : Ok (evE C (.ife c a b) env) Q = Ok (evE C c env) fun p => trK p.1 fun t => brK t (Ok (evE C a p.2) Q) (Ok (evE C b p.2) Q) := by
  show Ok (evE C c env >>= fun p => truth p.1 >>= fun t => if t = true then evE C a p.2 else evE C b p.2) Q = _
  rw [ok_bind]; (first | refine okc fun p => ?_ | refine gtc fun p => ?_ | refine trc fun p => ?_); rw [ok_bind, ok_truth]; (first | refine okc fun t => ?_ | refine gtc fun t => ?_ | refine trc fun t => ?_); rw [ok_ite]
theorem ok_chn (p q : Prim) (a b c : E) (Q : D × Env → Prop) : Ok (evE C (.chn p q a b c) env) Q = Ok (evE C a env) fun x => Ok (evE C b x.2) fun y => (flat x.1 && flat y.1) = true ∧ Ok (prim p [x.1, y.1]) fun d => trK d fun t => brK t (Ok (evE C c y.2) fun z => Ok (prim q [y.1, z.1]) fun d => trK d fun _ => Q (d, z.2)) (Q (.bl false, y.2)) := by
  show Ok (evE C a env >>= fun x => evE C b x.2 >>= fun y => if (flat x.1 && flat y.1) = true then (prim p [x.1, y.1] >>= fun d => truth d >>= fun t => if t = true then (evE C c y.2 >>= fun z => prim q [y.1, z.1] >>= fun d => truth d >>= fun _ => R.ok (d, z.2)) else R.ok (.bl false, y.2)) else .bad) Q = _
  rw [ok_bind]; (first | refine okc fun x => ?_ | refine gtc fun x => ?_ | refine trc fun x => ?_); rw [ok_bind]; (first | refine okc fun y => ?_ | refine gtc fun y => ?_ | refine trc fun y => ?_)
  cases hf : (flat x.1 && flat y.1) with
  | false => rw [if_neg Bool.false_ne_true]; simp [Ok]
  | true =>
    rw [if_pos rfl, ok_bind]
    simp only [true_and]
    (first | refine okc fun d => ?_ | refine gtc fun d => ?_ | refine trc fun d => ?_); rw [ok_bind, ok_truth]; (first | refine okc fun t => ?_ | refine gtc fun t => ?_ | refine trc fun t => ?_); rw [ok_ite]
    have : Ok (evE C c y.2 >>= fun z => prim q [y.1, z.1] >>= fun d => truth d >>= fun _ => R.ok (d, z.2)) Q = Ok (evE C c y.2) fun z => Ok (prim q [y.1, z.1]) fun d => trK d fun _ => Q (d, z.2) := by
      rw [ok_bind]; (first | refine okc fun z => ?_ | refine gtc fun z => ?_ | refine trc fun z => ?_); rw [ok_bind]; (first | refine okc fun d => ?_ | refine gtc fun d => ?_ | refine trc fun d => ?_); rw [ok_bind, ok_truth]; rfl
    rw [this]; rfl
theorem ok_lenK (ds : List D) (r : D) (env : Env) (Q : D × Env → Prop) : Ok (if decide (ds.length ≤ line) = true then R.ok (r, env) else .bad) Q = (ds.length ≤ line ∧ Q (r, env)) := by
  by_cases h : ds.length ≤ line <;> simp [h, Ok]
theorem ok_lst (es : E) (Q : D × Env → Prop) : Ok (evE C (.lst es) env) Q = Ok (evL C es env) fun p => p.1.length ≤ line ∧ Q (.lst true p.1, p.2) := by
  show Ok (evL C es env >>= fun p => if decide (p.1.length ≤ line) = true then R.ok (.lst true p.1, p.2) else .bad) Q = _
  rw [ok_bind]; (first | refine okc fun p => ?_ | refine gtc fun p => ?_ | refine trc fun p => ?_); rw [ok_lenK]
theorem ok_tup (es : E) (Q : D × Env → Prop) : Ok (evE C (.tup es) env) Q = Ok (evL C es env) fun p => p.1.length ≤ line ∧ Q (.tup p.1, p.2) := by
  show Ok (evL C es env >>= fun p => if decide (p.1.length ≤ line) = true then R.ok (.tup p.1, p.2) else .bad) Q = _
  rw [ok_bind]; (first | refine okc fun p => ?_ | refine gtc fun p => ?_ | refine trc fun p => ?_); rw [ok_lenK]
theorem ok_frz (a : E) (Q : D × Env → Prop) : Ok (evE C (.frz a) env) Q = Ok (evE C a env) fun p => Q (frz p.1, p.2) := by
  show Ok (evE C a env >>= fun p => R.ok (frz p.1, p.2)) Q = _
  rw [ok_bind]; rfl
theorem ok_A_nil (Q : List D × Env → Prop) : Ok (evA C .nil env) Q = Q ([], env) := id rfl
theorem ok_A_bor (i : Nat) (es : E) (Q : List D × Env → Prop) : Ok (evA C (.cons (.bor i) es) env) Q = getK env i fun _ => Ok (evA C es env) fun q => getK q.2 i fun d => Q (d :: q.1, q.2) := by
  show Ok (getE env i >>= fun _ => evA C es env >>= fun q => getE q.2 i >>= fun d => R.ok (d :: q.1, q.2)) Q = _
  rw [ok_bind, ok_getE]; (first | refine okc fun _ => ?_ | refine gtc fun _ => ?_ | refine trc fun _ => ?_); rw [ok_bind]; (first | refine okc fun q => ?_ | refine gtc fun q => ?_ | refine trc fun q => ?_); rw [ok_bind, ok_getE]; rfl
theorem ok_A_cons {a : E} (h : isBor a = false) (es : E) (Q : List D × Env → Prop) : Ok (evA C (.cons a es) env) Q = Ok (evE C a env) fun p => Ok (evA C es p.2) fun q => Q (p.1 :: q.1, q.2) := by
  rw [evA_cons C h, ok_bind]; (first | refine okc fun p => ?_ | refine gtc fun p => ?_ | refine trc fun p => ?_); rw [ok_bind]; rfl
theorem ok_L_nil (Q : List D × Env → Prop) : Ok (evL C .nil env) Q = Q ([], env) := id rfl
theorem ok_L_cons (a es : E) (Q : List D × Env → Prop) : Ok (evL C (.cons a es) env) Q = Ok (evE C a env) fun p => Ok (evL C es p.2) fun q => Q (p.1 :: q.1, q.2) := by
  show Ok (evE C a env >>= fun p => evL C es p.2 >>= fun q => R.ok (p.1 :: q.1, q.2)) Q = _
  rw [ok_bind]; (first | refine okc fun p => ?_ | refine gtc fun p => ?_ | refine trc fun p => ?_); rw [ok_bind]; rfl
theorem ok_perm_nil (ds : List D) (Q : List D → Prop) : Ok (perm [] ds) Q = Q ds := id rfl
/-- what comes back from a call that changes nothing -/
def retK (r : D) (env : Env) (ln : List Nat) (Q : D × Env → Prop) : Prop := Q (r, if isFresh r = true then env else frzAll env ln)
theorem retK_fresh {r : D} (h : isFresh r = true) (env : Env) (ln : List Nat) (Q : D × Env → Prop) : retK r env ln Q = Q (r, env) := by unfold retK; rw [if_pos h]
theorem retK_same {env : Env} {ln : List Nat} (h : frzAll env ln = env) (r : D) (Q : D × Env → Prop) : retK r env ln Q = Q (r, env) := by
  unfold retK
  rw [h]
  split <;> rfl
theorem ok_call {f : Nat} (hio : C.io f = false) (pm : List Nat) (es : E) (Q : D × Env → Prop) : Ok (evE C (.call f pm es) env) Q = Ok (evA C es env) fun p => Ok (perm pm p.1) fun ds => Ok (C.run f (ds.map frz)) fun r => retK r.1 p.2 (lent es) Q := by
  show Ok (evA C es env >>= fun p => perm pm p.1 >>= fun ds => if C.io f = true then _ else (C.run f (ds.map frz) >>= fun r => if isFresh r.1 = true then R.ok (r.1, p.2) else R.ok (r.1, frzAll p.2 (lent es)))) Q = _
  rw [ok_bind]; (first | refine okc fun p => ?_ | refine gtc fun p => ?_ | refine trc fun p => ?_); rw [ok_bind]; (first | refine okc fun ds => ?_ | refine gtc fun ds => ?_ | refine trc fun ds => ?_)
  rw [hio, if_neg Bool.false_ne_true, ok_bind]; (first | refine okc fun r => ?_ | refine gtc fun r => ?_ | refine trc fun r => ?_)
  unfold retK
  by_cases h : isFresh r.1 = true
  · rw [if_pos h, if_pos h]; rfl
  · rw [if_neg h, if_neg h]; rfl
theorem ok_callio {f : Nat} (hio : C.io f = true) (i : Nat) (rest : E) (Q : D × Env → Prop) : Ok (evE C (.call f [] (.cons (.bor i) rest)) env) Q = getK env i fun _ => Ok (evA C rest env) fun q => (lent rest).contains i = false ∧ getK q.2 i fun d0 => Ok (C.run f (d0 :: q.1.map frz)) fun r => allFlat r.2 = true ∧ setK q.2 i r.2 fun e => retK r.1 e (lent rest) Q := by
  show Ok (evA C (.cons (.bor i) rest) env >>= fun p => perm [] p.1 >>= fun ds => if C.io f = true then _ else _) Q = _
  rw [ok_bind, ok_A_bor]; (first | refine okc fun _ => ?_ | refine gtc fun _ => ?_ | refine trc fun _ => ?_); (first | refine okc fun q => ?_ | refine gtc fun q => ?_ | refine trc fun q => ?_)
  have e : ∀ d0 : D, Ok (perm [] (d0 :: q.1, q.2).1 >>= fun ds => if C.io f = true then (match ds, ([] : List Nat) with
      | d0 :: ds, [] => if (lent rest).contains i = true then R.bad else C.run f (d0 :: ds.map frz) >>= fun r => if allFlat r.2 = true then R.ok (r.1, if isFresh r.1 = true then (d0 :: q.1, q.2).2.set i (some r.2) else frzAll ((d0 :: q.1, q.2).2.set i (some r.2)) (lent rest)) else R.bad
      | _, _ => R.bad) else (C.run f (ds.map frz) >>= fun r => if isFresh r.1 = true then R.ok (r.1, q.2) else R.ok (r.1, frzAll q.2 (lent (.cons (.bor i) rest))))) Q
      = Ok (if (lent rest).contains i = true then R.bad else (C.run f (d0 :: q.1.map frz) >>= fun r => if allFlat r.2 = true then R.ok r else R.bad) >>= fun r => R.ok (r.1, q.2.set i (some r.2))) fun p => retK p.1 p.2 (lent rest) Q := by
    intro d0
    rw [ok_bind, ok_perm_nil, hio]
    show Ok (if (lent rest).contains i = true then R.bad else C.run f (d0 :: q.1.map frz) >>= fun r => if allFlat r.2 = true then R.ok (r.1, if isFresh r.1 = true then q.2.set i (some r.2) else frzAll (q.2.set i (some r.2)) (lent rest)) else R.bad) Q = _
    cases (lent rest).contains i with
    | true => rfl
    | false =>
      show Ok (C.run f (d0 :: q.1.map frz) >>= _) Q = Ok ((C.run f (d0 :: q.1.map frz) >>= _) >>= _) _
      rw [ok_bind, ok_bind, ok_bind]; (first | refine okc fun r => ?_ | refine gtc fun r => ?_ | refine trc fun r => ?_)
      cases allFlat r.2 <;> rfl
  refine (congrArg (getK q.2 i) (funext e)).trans ?_
  cases hc : (lent rest).contains i with
  | true =>
    simp only [if_true, Bool.true_eq_false, false_and]
    show getK q.2 i (fun _ => False) = False
    rw [← ok_getE]
    cases getE q.2 i <;> rfl
  | false =>
    simp only [Bool.false_eq_true, if_false, true_and]
    have := ok_getset (env := q.2) i (fun d0 => C.run f (d0 :: q.1.map frz) >>= fun r => if allFlat r.2 = true then R.ok r else R.bad) fun p => retK p.1 p.2 (lent rest) Q
    rw [ok_bind, ok_getE] at this
    refine this.trans ?_
    (first | refine okc fun d0 => ?_ | refine gtc fun d0 => ?_ | refine trc fun d0 => ?_)
    rw [ok_bind]; (first | refine okc fun r => ?_ | refine gtc fun r => ?_ | refine trc fun r => ?_)
    rw [ok_guard]; rfl
def conK (ds : List D) (K : D → List D → Prop) : Prop := match ds with | d :: ds => K d ds | [] => False
theorem conK_c (d : D) (ds : List D) (K : D → List D → Prop) : conK (d :: ds) K = K d ds := id rfl
theorem ok_callT {f : Nat} (hio : C.io f = true) (es : E) (Q : D × Env → Prop) : Ok (evE C (.callT f es) env) Q = Ok (evL C es env) fun p => conK p.1 fun d0 ds => Ok (C.run f (d0 :: ds.map frz)) fun r => Q (r.1, p.2) := by
  show Ok (evL C es env >>= fun p => match p.1 with
    | d0 :: ds => if C.io f = true then (C.run f (d0 :: ds.map frz) >>= fun q => R.ok (q.1, p.2)) else R.bad
    | [] => R.bad) Q = _
  rw [ok_bind]
  refine okc fun p => ?_
  cases p.1 with
  | nil => rfl
  | cons d0 ds => show Ok (if C.io f = true then _ else _) Q = _; rw [if_pos hio, ok_bind]; rfl
theorem ok_pop (i : Nat) (es : E) (Q : D × Env → Prop) : Ok (evE C (.pop i es) env) Q = getK env i fun d0 => isListD d0 = true ∧ Ok (evA C es env) fun p => getK p.2 i fun w => Ok (R.ofO (popAt w p.1)) fun r => setK p.2 i r.2 fun e => Q (r.1, e) := by
  show Ok (getE env i >>= fun d0 => if isListD d0 = true then (evA C es env >>= fun p => getE p.2 i >>= fun w => match popAt w p.1 with | some (d, w') => R.ok (d, p.2.set i (some w')) | none => .bad) else .bad) Q = _
  rw [ok_bind, ok_getE]; (first | refine okc fun d0 => ?_ | refine gtc fun d0 => ?_ | refine trc fun d0 => ?_)
  rw [ok_guard, ok_bind]; congr 1; (first | refine okc fun p => ?_ | refine gtc fun p => ?_ | refine trc fun p => ?_)
  refine Eq.trans ?_ (ok_getset (env := p.2) i (fun w => R.ofO (popAt w p.1)) Q)
  rw [ok_bind, ok_bind]; refine okc fun w => ?_
  cases popAt w p.1 <;> rfl
theorem ok_pop0 (i : Nat) (Q : D × Env → Prop) : Ok (evE C (.pop0 i) env) Q = getK env i fun w => Ok (R.ofO (popEnd w)) fun r => setK env i r.2 fun e => Q (r.1, e) := by
  show Ok (getE env i >>= fun d0 => match popEnd d0 with | some (d, w') => R.ok (d, env.set i (some w')) | none => .bad) Q = _
  refine Eq.trans ?_ (ok_getset (env := env) i (fun w => R.ofO (popEnd w)) Q)
  rw [ok_bind, ok_bind]; refine okc fun w => ?_
  cases popEnd w <;> rfl
/-- the things that a loop walks -/
def itK (k : IK) (ds : List D) (K : List D → Prop) (_ : Dum K := ⟨⟩) : Prop := Ok (items k ds) K
theorem itc {k : IK} {ds : List D} {Q Q' : List D → Prop} (h : ∀ a, Q a = Q' a) : itK k ds Q = itK k ds Q' := by rw [show Q = Q' from funext h]
theorem ok_noX (r : R α) (Q : α → Prop) : Ok (noX r) Q = Ok r Q := by cases r <;> rfl
theorem ok_evI (k : IK) (es : E) (Q : List D × Env → Prop) : Ok (evI C k es env) Q = Ok (evL C es env) fun p => itK k p.1 fun xs => Q (xs, p.2) := by
  unfold evI
  rw [ok_bind]; (first | refine okc fun p => ?_ | refine gtc fun p => ?_ | refine trc fun p => ?_ | refine itc fun p => ?_); rw [ok_bind]; rfl
theorem ok_comp (elt : E) (ts : List Nat) (k : IK) (es c : E) (Q : D × Env → Prop) : Ok (evE C (.comp elt ts k es c) env) Q = Ok (evL C es env) fun p => itK k p.1 fun xs => Ok (compL (turnC C elt ts c) xs p.2 []) fun q => xs.length ≤ line ∧ Q (.lst true q.1, wipeE q.2 ts) := by
  rw [evE_comp, ok_bind, ok_evI]; (first | refine okc fun p => ?_ | refine gtc fun p => ?_ | refine trc fun p => ?_ | refine itc fun p => ?_); (first | refine okc fun xs => ?_ | refine gtc fun xs => ?_ | refine trc fun xs => ?_ | refine itc fun xs => ?_)
  rw [ok_bind, ok_noX]; (first | refine okc fun q => ?_ | refine gtc fun q => ?_ | refine trc fun q => ?_ | refine itc fun q => ?_); rw [ok_lenK]
theorem ok_comp2 (elt : E) (ts : List Nat) (k : IK) (es : E) (us : List Nat) (l : IK) (fs c : E) (Q : D × Env → Prop) : Ok (evE C (.comp2 elt ts k es us l fs c) env) Q = Ok (evL C es env) fun p => itK k p.1 fun xs => Ok (compL2 (turnD C elt ts us l fs c) xs p.2 []) fun q => Q (.lst true q.1, wipeE q.2 (ts ++ us)) := by
  rw [evE_comp2, ok_bind, ok_evI]; (first | refine okc fun p => ?_ | refine gtc fun p => ?_ | refine trc fun p => ?_ | refine itc fun p => ?_); (first | refine okc fun xs => ?_ | refine gtc fun xs => ?_ | refine trc fun xs => ?_ | refine itc fun xs => ?_)
  rw [ok_bind, ok_noX]; rfl
theorem ok_setT1 (i : Nat) (d : D) (Q : Env → Prop) : Ok (setT C env [i] d) Q = Ok (setE C env i d) Q := id rfl
theorem ok_setT2 (i j : Nat) (a b : D) (Q : Env → Prop) : Ok (setT C env [i, j] (.tup [a, b])) Q = Ok (setE C env i a) fun env => Ok (setE C env j b) Q := by
  show Ok (setE C env i a >>= fun env => setE C env j b >>= fun env => R.ok env) Q = _
  rw [ok_bind]; (first | refine okc fun e => ?_ | refine gtc fun e => ?_ | refine trc fun e => ?_ | refine itc fun e => ?_); rw [ok_bind]; rfl
theorem ok_setT3 (i j k : Nat) (a b c : D) (Q : Env → Prop) : Ok (setT C env [i, j, k] (.tup [a, b, c])) Q = Ok (setE C env i a) fun env => Ok (setE C env j b) fun env => Ok (setE C env k c) Q := by
  show Ok (setE C env i a >>= fun env => setE C env j b >>= fun env => setE C env k c >>= fun env => R.ok env) Q = _
  rw [ok_bind]; (first | refine okc fun e => ?_ | refine gtc fun e => ?_ | refine trc fun e => ?_ | refine itc fun e => ?_); rw [ok_bind]; (first | refine okc fun e => ?_ | refine gtc fun e => ?_ | refine trc fun e => ?_ | refine itc fun e => ?_); rw [ok_bind]; rfl
theorem ok_setEs0 (Q : Env → Prop) : Ok (setEs C env [] []) Q = Q env := id rfl
theorem ok_setEs (i : Nat) (is : List Nat) (d : D) (ds : List D) (Q : Env → Prop) : Ok (setEs C env (i :: is) (d :: ds)) Q = Ok (setE C env i d) fun env => Ok (setEs C env is ds) Q := by
  show Ok (setE C env i d >>= fun env => setEs C env is ds) Q = _
  rw [ok_bind]
theorem ok_turnC (elt : E) (ts : List Nat) (c : E) (x : D) (Q : Option D × Env → Prop) : Ok (turnC C elt ts c x env) Q = Ok (setT C (wipeE env ts) ts x) fun env => Ok (evE C c env) fun p => trK p.1 fun t => brK t (Ok (evE C elt p.2) fun r => Q (some r.1, r.2)) (Q (none, p.2)) := by
  show Ok (setT C (wipeE env ts) ts x >>= fun env => evE C c env >>= fun p => truth p.1 >>= fun t => if t = true then (evE C elt p.2 >>= fun r => R.ok (some r.1, r.2)) else R.ok (none, p.2)) Q = _
  rw [ok_bind]; (first | refine okc fun e => ?_ | refine gtc fun e => ?_ | refine trc fun e => ?_ | refine itc fun e => ?_); rw [ok_bind]; (first | refine okc fun p => ?_ | refine gtc fun p => ?_ | refine trc fun p => ?_ | refine itc fun p => ?_); rw [ok_bind, ok_truth]; (first | refine okc fun t => ?_ | refine gtc fun t => ?_ | refine trc fun t => ?_ | refine itc fun t => ?_)
  rw [ok_ite, ok_bind]; rfl
theorem ok_turnD (elt : E) (ts us : List Nat) (l : IK) (fs c : E) (x : D) (acc : List D) (Q : List D × Env → Prop) : Ok (turnD C elt ts us l fs c x env acc) Q = Ok (setT C (wipeE env (ts ++ us)) ts x) fun env => Ok (evL C fs env) fun p => itK l p.1 fun ys => acc.length + ys.length ≤ line ∧ Ok (compL (turnC C elt us c) ys p.2 acc) Q := by
  unfold turnD
  rw [ok_bind]; (first | refine okc fun e => ?_ | refine gtc fun e => ?_ | refine trc fun e => ?_ | refine itc fun e => ?_)
  rw [ok_bind, ok_evI]; (first | refine okc fun p => ?_ | refine gtc fun p => ?_ | refine trc fun p => ?_ | refine itc fun p => ?_); (first | refine okc fun ys => ?_ | refine gtc fun ys => ?_ | refine trc fun ys => ?_ | refine itc fun ys => ?_)
  by_cases h : acc.length + ys.length ≤ line <;> simp [h, Ok]
/-! statements -/
def seqK (C : Ctx) (r : S) (Q : Out → Prop) : Out → Prop
  | .nx env => Ok (evS C r env) Q
  | o => Q o
theorem seqK_nx (r : S) (Q : Out → Prop) : seqK C r Q (.nx env) = Ok (evS C r env) Q := id rfl
theorem seqK_ret (r : S) (Q : Out → Prop) (d : D) : seqK C r Q (.ret d env) = Q (.ret d env) := id rfl
theorem seqK_brk (r : S) (Q : Out → Prop) : seqK C r Q (.brk env) = Q (.brk env) := id rfl
theorem seqK_ct (r : S) (Q : Out → Prop) : seqK C r Q (.ct env) = Q (.ct env) := id rfl
theorem ok_seq (s r : S) (Q : Out → Prop) : Ok (evS C (.seq s r) env) Q = Ok (evS C s env) (seqK C r Q) := by
  show Ok (evS C s env >>= fun o => match o with | .nx env => evS C r env | o => R.ok o) Q = _
  rw [ok_bind]; (first | refine okc fun o => ?_ | refine gtc fun o => ?_ | refine trc fun o => ?_ | refine itc fun o => ?_); cases o <;> rfl
theorem ok_skip (Q : Out → Prop) : Ok (evS C .skip env) Q = Q (.nx env) := id rfl
theorem ok_brk (Q : Out → Prop) : Ok (evS C .brk env) Q = Q (.brk env) := id rfl
theorem ok_cnt (Q : Out → Prop) : Ok (evS C .cnt env) Q = Q (.ct env) := id rfl
theorem ok_asg (i : Nat) (e : E) (Q : Out → Prop) : Ok (evS C (.asg i e) env) Q = Ok (evE C e env) fun p => Ok (setE C p.2 i p.1) fun env => Q (.nx env) := by
  show Ok (evE C e env >>= fun p => setE C p.2 i p.1 >>= fun env => R.ok (.nx env)) Q = _
  rw [ok_bind]; (first | refine okc fun p => ?_ | refine gtc fun p => ?_ | refine trc fun p => ?_ | refine itc fun p => ?_); rw [ok_bind]; rfl
def tupK (d : D) (K : List D → Prop) : Prop := match d with | .tup ds => K ds | _ => False
theorem tupK_tup (ds : List D) (K : List D → Prop) : tupK (.tup ds) K = K ds := id rfl
theorem ok_asgT (is : List Nat) (e : E) (Q : Out → Prop) : Ok (evS C (.asgT is e) env) Q = Ok (evE C e env) fun p => tupK p.1 fun ds => Ok (setEs C p.2 is ds) fun env => Q (.nx env) := by
  show Ok (evE C e env >>= fun p => match p.1 with | .tup ds => (setEs C p.2 is ds >>= fun env => R.ok (.nx env)) | _ => R.bad) Q = _
  rw [ok_bind]; (first | refine okc fun p => ?_ | refine gtc fun p => ?_ | refine trc fun p => ?_ | refine itc fun p => ?_)
  cases p.1 <;> first | rfl | (rw [ok_bind]; rfl)
theorem ok_par (is : List Nat) (es : E) (Q : Out → Prop) : Ok (evS C (.par is es) env) Q = Ok (evL C es env) fun p => Ok (setEs C p.2 is p.1) fun env => Q (.nx env) := by
  show Ok (evL C es env >>= fun p => setEs C p.2 is p.1 >>= fun env => R.ok (.nx env)) Q = _
  rw [ok_bind]; (first | refine okc fun p => ?_ | refine gtc fun p => ?_ | refine trc fun p => ?_ | refine itc fun p => ?_); rw [ok_bind]; rfl
theorem ok_ex (e : E) (Q : Out → Prop) : Ok (evS C (.ex e) env) Q = Ok (evE C e env) fun p => Q (.nx p.2) := by
  show Ok (evE C e env >>= fun p => R.ok (.nx p.2)) Q = _
  rw [ok_bind]; rfl
theorem ok_ifs (c : E) (a b : S) (Q : Out → Prop) : Ok (evS C (.ifs c a b) env) Q = Ok (evE C c env) fun p => trK p.1 fun t => brK t (Ok (evS C a p.2) Q) (Ok (evS C b p.2) Q) := by
  show Ok (evE C c env >>= fun p => truth p.1 >>= fun t => if t = true then evS C a p.2 else evS C b p.2) Q = _
  rw [ok_bind]; (first | refine okc fun p => ?_ | refine gtc fun p => ?_ | refine trc fun p => ?_ | refine itc fun p => ?_); rw [ok_bind, ok_truth]; (first | refine okc fun t => ?_ | refine gtc fun t => ?_ | refine trc fun t => ?_ | refine itc fun t => ?_); rw [ok_ite]
theorem ok_for (ts : List Nat) (k : IK) (es : E) (b : S) (Q : Out → Prop) : Ok (evS C (.for_ ts k es b) env) Q = Ok (evL C es env) fun p => itK k p.1 fun xs => Ok (forL (turnF C ts b) xs p.2) Q := by
  rw [evS_for, ok_bind, ok_evI]
theorem ok_turnF (ts : List Nat) (b : S) (x : D) (Q : Out → Prop) : Ok (turnF C ts b x env) Q = Ok (setT C env ts x) fun env => Ok (evS C b env) Q := by
  unfold turnF
  rw [ok_bind]
theorem ok_whl (c : E) (b : S) (Q : Out → Prop) : Ok (evS C (.whl c b) env) Q = Ok (whileL (evE C c) (evS C b) C.fuel env) Q := id rfl
theorem ok_ret {e : E} (h : isVar e = false) (Q : Out → Prop) : Ok (evS C (.ret e) env) Q = Ok (evE C e env) fun p => Q (.ret p.1 p.2) := by
  show Ok (evR C e env >>= fun p => R.ok (.ret p.1 p.2)) Q = _
  rw [evR_ne h, ok_bind]; rfl
def wipK : Env → Nat → (Env → Prop) → Prop
  | _ :: env, 0, K => K (none :: env)
  | x :: env, i + 1, K => wipK env i fun e => K (x :: e)
  | [], _, K => K []
theorem wipK_z (x : Option D) (env : Env) (K : Env → Prop) : wipK (x :: env) 0 K = K (none :: env) := id rfl
theorem wipK_s (x : Option D) (env : Env) (i : Nat) (K : Env → Prop) : wipK (x :: env) (i + 1) K = wipK env i fun e => K (x :: e) := id rfl
theorem ok_retv (i : Nat) (Q : Out → Prop) : Ok (evS C (.ret (.var i)) env) Q = getK env i fun d => wipK env i fun e => Q (.ret d e) := by
  show Ok ((getE env i >>= fun d => R.ok (d, env.set i none)) >>= fun p => R.ok (.ret p.1 p.2)) Q = _
  have e : ((getE env i >>= fun d => R.ok (d, env.set i none)) >>= fun p => R.ok (Out.ret p.1 p.2)) = (getE env i >>= fun d => R.ok (.ret d (env.set i none))) := by cases getE env i <;> rfl
  rw [e, ok_bind, ok_getE]
  have w : ∀ (env : Env) (i : Nat) (K : Env → Prop), wipK env i K = K (env.set i none) := by
    intro env
    induction env with
    | nil => intros; rfl
    | cons x env ih => intro i K; cases i with
      | zero => rfl
      | succ i => rw [wipK_s, ih]; rfl
  (first | refine okc fun d => ?_ | refine gtc fun d => ?_ | refine trc fun d => ?_ | refine itc fun d => ?_); rw [w]; rfl
/-- a thing is changed in place, to no other end -/
theorem ok_setO (i : Nat) (f : D → Option D) (Q : Out → Prop) : Ok (getE env i >>= fun w => match f w with | some d' => R.ok (Out.nx (env.set i (some d'))) | none => .bad) Q = getK env i fun w => Ok (R.ofO (f w)) fun d => setK env i d fun env => Q (.nx env) := by
  have h := ok_getset (env := env) i (fun w => R.ofO (f w) >>= fun d => R.ok ((), d)) fun p => Q (.nx p.2)
  have e : Ok (getE env i >>= fun w => match f w with | some d' => R.ok (Out.nx (env.set i (some d'))) | none => .bad) Q = Ok (getE env i >>= fun w => (R.ofO (f w) >>= fun d => R.ok ((), d)) >>= fun d => R.ok (d.1, env.set i (some d.2))) fun p => Q (.nx p.2) := by
    rw [ok_bind, ok_bind]; (first | refine okc fun w => ?_ | refine gtc fun w => ?_ | refine trc fun w => ?_ | refine itc fun w => ?_)
    cases f w <;> rfl
  rw [e, h]; (first | refine okc fun w => ?_ | refine gtc fun w => ?_ | refine trc fun w => ?_ | refine itc fun w => ?_)
  rw [ok_bind]; rfl
theorem ok_app (i : Nat) (e : E) (Q : Out → Prop) : Ok (evS C (.app i e) env) Q = getK env i fun d0 => isListD d0 = true ∧ Ok (evE C e env) fun p => getK p.2 i fun w => Ok (R.ofO (appP p.1 w [])) fun d => setK p.2 i d fun env => Q (.nx env) := by
  show Ok (getE env i >>= fun d0 => if isListD d0 = true then (evE C e env >>= fun p => getE p.2 i >>= fun w => match appP p.1 w [] with | some d' => R.ok (.nx (p.2.set i (some d'))) | none => .bad) else .bad) Q = _
  rw [ok_bind, ok_getE]; (first | refine okc fun d0 => ?_ | refine gtc fun d0 => ?_ | refine trc fun d0 => ?_ | refine itc fun d0 => ?_)
  rw [ok_guard, ok_bind]; congr 1; (first | refine okc fun p => ?_ | refine gtc fun p => ?_ | refine trc fun p => ?_ | refine itc fun p => ?_)
  exact ok_setO (env := p.2) i (fun w => appP p.1 w []) Q
theorem ok_appP (i : Nat) (path : List Nat) (y : D) (Q : Out → Prop) : Ok (evS C (.appP i path y) env) Q = (flat y = true ∧ getK env i fun d0 => Ok (R.ofO (appP y d0 path)) fun d => setK env i d fun env => Q (.nx env)) := by
  show Ok (getE env i >>= fun d0 => if flat y = true then (match appP y d0 path with | some d' => R.ok (.nx (env.set i (some d'))) | none => .bad) else .bad) Q = _
  cases flat y with
  | true => simp only [if_true, true_and]; exact ok_setO (env := env) i (fun w => appP y w path) Q
  | false =>
    simp only [Bool.false_eq_true, if_false, false_and]
    rw [ok_bind]
    cases getE env i <;> rfl
/-- a place in a list is set -/
def setIx (w k d : D) : Option D := match w, k with
  | .lst true xs, .int k => (ixN xs.length k).map fun j => .lst true (xs.set j d)
  | _, _ => none
theorem ok_seti (i : Nat) (ix e : E) (Q : Out → Prop) : Ok (evS C (.seti i ix e) env) Q = getK env i fun _ => Ok (evE C e env) fun p => Ok (evE C ix p.2) fun q => getK q.2 i fun w => Ok (R.ofO (setIx w q.1 p.1)) fun d => setK q.2 i d fun env => Q (.nx env) := by
  show Ok (getE env i >>= fun _ => evE C e env >>= fun p => evE C ix p.2 >>= fun q => getE q.2 i >>= fun w => match w, q.1 with
    | .lst true xs, .int k => (match ixN xs.length k with
      | some j => R.ok (.nx (q.2.set i (some (.lst true (xs.set j p.1)))))
      | none => .bad)
    | _, _ => .bad) Q = _
  rw [ok_bind, ok_getE]; (first | refine okc fun _ => ?_ | refine gtc fun _ => ?_ | refine trc fun _ => ?_ | refine itc fun _ => ?_); rw [ok_bind]; (first | refine okc fun p => ?_ | refine gtc fun p => ?_ | refine trc fun p => ?_ | refine itc fun p => ?_); rw [ok_bind]; (first | refine okc fun q => ?_ | refine gtc fun q => ?_ | refine trc fun q => ?_ | refine itc fun q => ?_)
  refine Eq.trans ?_ (ok_setO (env := q.2) i (fun w => setIx w q.1 p.1) Q)
  rw [ok_bind, ok_bind]; (first | refine okc fun w => ?_ | refine gtc fun w => ?_ | refine trc fun w => ?_ | refine itc fun w => ?_)
  obtain ⟨k, e3⟩ := q
  unfold setIx
  dsimp only
  split
  · rename_i xs k
    cases ixN xs.length k <;> rfl
  · rfl
/-- += -/
def augK (C : Ctx) (env : Env) (i : Nat) (p : Prim) (w d : D) (Q : Out → Prop) : Prop := match w, d with
  | .int a, .int b => Ok (prim p [.int a, .int b]) fun r => Ok (setE C env i r) fun env => Q (.nx env)
  | .lst true xs, .lst o ys => (p == .add && (o || noOwnL ys) && decide (xs.length + ys.length ≤ line)) = true ∧ Q (.nx (env.set i (some (.lst true (xs ++ ys)))))
  | _, _ => False
theorem ok_aug (i : Nat) (p : Prim) (e : E) (Q : Out → Prop) : Ok (evS C (.aug i p e) env) Q = getK env i fun _ => Ok (evE C e env) fun q => getK q.2 i fun w => augK C q.2 i p w q.1 Q := by
  show Ok (getE env i >>= fun _ => evE C e env >>= fun q => getE q.2 i >>= fun w => match w, q.1 with
    | .int a, .int b => (prim p [.int a, .int b] >>= fun r => setE C q.2 i r >>= fun env => R.ok (.nx env))
    | .lst true xs, .lst o ys => if (p == .add && (o || noOwnL ys) && decide (xs.length + ys.length ≤ line)) = true then R.ok (.nx (q.2.set i (some (.lst true (xs ++ ys))))) else .bad
    | _, _ => .bad) Q = _
  rw [ok_bind, ok_getE]; (first | refine okc fun _ => ?_ | refine gtc fun _ => ?_ | refine trc fun _ => ?_ | refine itc fun _ => ?_); rw [ok_bind]; (first | refine okc fun q => ?_ | refine gtc fun q => ?_ | refine trc fun q => ?_ | refine itc fun q => ?_); rw [ok_bind, ok_getE]; (first | refine okc fun w => ?_ | refine gtc fun w => ?_ | refine trc fun w => ?_ | refine itc fun w => ?_)
  unfold augK
  split
  · rename_i heq; rw [ok_bind]; (first | refine okc fun r => ?_ | refine gtc fun r => ?_ | refine trc fun r => ?_ | refine itc fun r => ?_); rw [ok_bind]; rfl
  · rename_i heq; rw [ok_guard]; rfl
  · rfl
/-- one more item in one of the lists of a list -/
theorem ok_appX (i : Nat) (ix : E) (j : Nat) (Q : Out → Prop) : Ok (evS C (.appX i ix j) env) Q = getK env i fun _ => Ok (evE C ix env) fun q => getK q.2 j fun y => getK q.2 i fun w => Ok (R.ofO (match q.1 with | .int k => appAt y k w | _ => none)) fun d => setK q.2 i d fun env => Q (.nx env) := by
  show Ok (getE env i >>= fun _ => evE C ix env >>= fun q => getE q.2 i >>= fun w => getE q.2 j >>= fun y => match q.1 with
    | .int k => (match appAt y k w with
      | some d' => R.ok (.nx (q.2.set i (some d')))
      | none => .bad)
    | _ => .bad) Q = _
  rw [ok_bind, ok_getE]; (first | refine okc fun _ => ?_ | refine gtc fun _ => ?_ | refine trc fun _ => ?_ | refine itc fun _ => ?_); rw [ok_bind]; (first | refine okc fun q => ?_ | refine gtc fun q => ?_ | refine trc fun q => ?_ | refine itc fun q => ?_)
  obtain ⟨k, e⟩ := q
  dsimp only
  rw [← ok_getE e j]
  cases hj : getE e j with
  | ok y =>
    show _ = getK e i _
    refine Eq.trans ?_ (ok_setO (env := e) i (fun w => match k with | .int k => appAt y k w | _ => none) Q)
    rw [ok_bind, ok_bind]; (first | refine okc fun w => ?_ | refine gtc fun w => ?_ | refine trc fun w => ?_ | refine itc fun w => ?_)
    cases k <;> rfl
  | exc c fs => show _ = False; rw [ok_bind]; cases getE e i <;> rfl
  | bad => show _ = False; rw [ok_bind]; cases getE e i <;> rfl
/-! dicts, and two places at once -/
def dlookR (w k : D) : R D := match dlook w k with
  | some (some d) => .ok d
  | _ => .bad
theorem ok_dget (i : Nat) (k : E) (Q : D × Env → Prop) : Ok (evE C (.dget i k) env) Q = getK env i fun _ => Ok (evE C k env) fun p => getK p.2 i fun w => Ok (dlookR w p.1) fun d => Q (d, p.2) := by
  show Ok (getE env i >>= fun _ => evE C k env >>= fun p => getE p.2 i >>= fun w => match dlook w p.1 with | some (some d) => R.ok (d, p.2) | _ => R.bad) Q = _
  rw [ok_bind, ok_getE]; refine gtc fun _ => ?_
  rw [ok_bind]; refine okc fun p => ?_
  rw [ok_bind, ok_getE]; refine gtc fun w => ?_
  unfold dlookR
  cases dlook w p.1 with
  | none => rfl
  | some o => cases o <;> rfl
theorem ok_din (neg : Bool) (a : E) (i : Nat) (Q : D × Env → Prop) : Ok (evE C (.din neg a i) env) Q = Ok (evE C a env) fun p => getK p.2 i fun w => Ok (R.ofO (dlook w p.1)) fun o => Q (.bl (if neg then !o.isSome else o.isSome), p.2) := by
  show Ok (evE C a env >>= fun p => getE p.2 i >>= fun w => match dlook w p.1 with | some o => R.ok (D.bl (if neg then !o.isSome else o.isSome), p.2) | none => R.bad) Q = _
  rw [ok_bind]; refine okc fun p => ?_
  rw [ok_bind, ok_getE]; refine gtc fun w => ?_
  cases dlook w p.1 <;> rfl
theorem ok_dsp (k : Int) (a : E) (Q : D × Env → Prop) : Ok (evE C (.dsp k a) env) Q = Ok (evE C a env) fun p => fzK p.1 fun d => Q (.dct true [(.inl k, d)], p.2) := by
  show Ok (evE C a env >>= fun p => R.ok (D.dct true [(.inl k, frz p.1)], p.2)) Q = _
  rw [ok_bind]; rfl
/-- all names, no more owned -/
def fzEK : Env → (Env → Prop) → Prop
  | [], K => K []
  | none :: env, K => fzEK env fun e => K (none :: e)
  | some d :: env, K => fzK d fun d => fzEK env fun e => K (some d :: e)
theorem fzEK_nil (K : Env → Prop) : fzEK [] K = K [] := id rfl
theorem fzEK_none (env : Env) (K : Env → Prop) : fzEK (none :: env) K = fzEK env fun e => K (none :: e) := id rfl
theorem fzEK_some (d : D) (env : Env) (K : Env → Prop) : fzEK (some d :: env) K = fzK d fun d => fzEK env fun e => K (some d :: e) := id rfl
theorem fzEK_o (x : Option D) (env : Env) (K : Env → Prop) : fzEK (x :: env) K = fzEK env fun e => K (x.map frz :: e) := by cases x <;> rfl
theorem fzEK_eq : ∀ (env : Env) (K : Env → Prop), fzEK env K = K (env.map (Option.map frz))
  | [], _ => rfl
  | x :: env, K => by rw [fzEK_o, fzEK_eq env]; rfl
theorem frzAt_get (env : Env) (i j : Nat) : (frzAt env i)[j]? = if j = i then (env[j]?).map (Option.map frz) else env[j]? := by
  unfold frzAt
  by_cases h : j = i
  · subst h
    rw [if_pos rfl]
    cases g : env[j]? with
    | none => exact g
    | some o =>
      cases o with
      | none => exact g
      | some d =>
        have hj : j < env.length := (List.getElem?_eq_some_iff.mp g).1
        show (env.set j (some (frz d)))[j]? = _
        rw [List.getElem?_set_self hj]; rfl
  · rw [if_neg h]
    cases g : env[i]? with
    | none => rfl
    | some o =>
      cases o with
      | none => rfl
      | some d => show (env.set i (some (frz d)))[j]? = _; rw [List.getElem?_set_ne (Ne.symm h)]
theorem frzAll_get (env : Env) (j : Nat) : ∀ is : List Nat, is.Nodup → (frzAll env is)[j]? = if j ∈ is then (env[j]?).map (Option.map frz) else env[j]?
  | [], _ => by simp [frzAll]
  | i :: is, hn => by
    obtain ⟨h1, h2⟩ := List.nodup_cons.mp hn
    show (frzAt (frzAll env is) i)[j]? = _
    rw [frzAt_get, frzAll_get env j is h2]
    by_cases h : j = i
    · subst h
      rw [if_pos rfl, if_neg h1, if_pos List.mem_cons_self]
    · rw [if_neg h]
      by_cases h3 : j ∈ is
      · rw [if_pos h3, if_pos (List.mem_cons_of_mem _ h3)]
      · rw [if_neg h3, if_neg fun z => (List.mem_cons.mp z).elim h h3]
theorem frzEnv_map (env : Env) : frzEnv env = env.map (Option.map frz) := by
  refine List.ext_getElem? fun j => ?_
  unfold frzEnv
  rw [frzAll_get env j _ List.nodup_range, List.getElem?_map]
  by_cases h : j ∈ List.range env.length
  · rw [if_pos h]
  · rw [if_neg h]
    rw [List.mem_range] at h
    rw [List.getElem?_eq_none (by omega)]; rfl
theorem ok_pin (a : E) (Q : D × Env → Prop) : Ok (evE C (.pin a) env) Q = fzEK env fun e => Ok (evE C a e) fun p => isFresh p.1 = true ∧ Q (p.1, env) := by
  show Ok (noX (evE C a (frzEnv env)) >>= fun p => if isFresh p.1 = true then R.ok (p.1, env) else R.bad) Q = _
  rw [fzEK_eq, frzEnv_map]
  cases evE C a (env.map (Option.map frz)) with
  | ok p => exact ok_guard _ _ _
  | exc c fs => rfl
  | bad => rfl
theorem ok_compK (elt : E) (ts : List Nat) (i : Nat) (c : E) (Q : D × Env → Prop) : Ok (evE C (.compK elt ts i c) env) Q = getK env i fun w => Ok (R.ofO (dkeys w)) fun xs => Ok (compL (turnC C elt ts c) xs (frzAt env i) []) fun q => xs.length ≤ line ∧ Q (.lst true q.1, wipeE q.2 ts) := by
  show Ok (getE env i >>= fun w => match dkeys w with
    | none => R.bad
    | some xs => (noX (compL (turnC C elt ts c) xs (frzAt env i) []) >>= fun q => if decide (xs.length ≤ line) = true then R.ok (D.lst true q.1, wipeE q.2 ts) else R.bad)) Q = _
  rw [ok_bind, ok_getE]; refine gtc fun w => ?_
  cases dkeys w with
  | none => rfl
  | some xs =>
    show Ok (noX (compL (turnC C elt ts c) xs (frzAt env i) []) >>= _) Q = Ok (compL (turnC C elt ts c) xs (frzAt env i) []) _
    rw [ok_bind, ok_noX]; refine okc fun q => ?_
    rw [ok_lenK]
theorem ok_dset (i : Nat) (k e : E) (Q : Out → Prop) : Ok (evS C (.dset i k e) env) Q = getK env i fun _ => Ok (evE C e env) fun p => Ok (evE C k p.2) fun q => getK q.2 i fun w => Ok (R.ofO (dput w q.1 p.1)) fun d => setK q.2 i d fun env => Q (.nx env) := by
  show Ok (getE env i >>= fun _ => evE C e env >>= fun p => evE C k p.2 >>= fun q => getE q.2 i >>= fun w => match dput w q.1 p.1 with | some w' => R.ok (Out.nx (q.2.set i (some w'))) | none => R.bad) Q = _
  rw [ok_bind, ok_getE]; refine gtc fun _ => ?_
  rw [ok_bind]; refine okc fun p => ?_
  rw [ok_bind]; refine okc fun q => ?_
  exact ok_setO (env := q.2) i (fun w => dput w q.1 p.1) Q
theorem ok_swp (i : Nat) (ix jx a b : E) (Q : Out → Prop) : Ok (evS C (.swp i ix jx a b) env) Q = Ok (evE C a env) fun p1 => Ok (evE C b p1.2) fun p2 => (flat p1.1 && flat p2.1) = true ∧ Ok (evS C (.seq (.seti i ix (.lit p1.1)) (.seti i jx (.lit p2.1))) p2.2) Q := by
  show Ok (evE C a env >>= fun p1 => evE C b p1.2 >>= fun p2 => if (flat p1.1 && flat p2.1) = true then evS C (.seq (.seti i ix (.lit p1.1)) (.seti i jx (.lit p2.1))) p2.2 else R.bad) Q = _
  rw [ok_bind]; refine okc fun p1 => ?_
  rw [ok_bind]; refine okc fun p2 => ?_
  rw [ok_guard]
theorem nbor_lit (d : D) : isBor (.lit d) = false := id rfl
theorem nbor_var (i : Nat) : isBor (.var i) = false := id rfl
theorem nbor_op (p : Prim) (es : E) : isBor (.op p es) = false := id rfl
theorem nbor_and (a b : E) : isBor (.and a b) = false := id rfl
theorem nbor_or (a b : E) : isBor (.or a b) = false := id rfl
theorem nbor_ife (a b c : E) : isBor (.ife a b c) = false := id rfl
theorem nbor_chn (p q : Prim) (a b c : E) : isBor (.chn p q a b c) = false := id rfl
theorem nbor_lst (es : E) : isBor (.lst es) = false := id rfl
theorem nbor_tup (es : E) : isBor (.tup es) = false := id rfl
theorem nbor_call (f : Nat) (pm : List Nat) (es : E) : isBor (.call f pm es) = false := id rfl
theorem nbor_pop (i : Nat) (es : E) : isBor (.pop i es) = false := id rfl
theorem nbor_pop0 (i : Nat) : isBor (.pop0 i) = false := id rfl
theorem nbor_callT (f : Nat) (es : E) : isBor (.callT f es) = false := id rfl
theorem nbor_dget (i : Nat) (k : E) : isBor (.dget i k) = false := id rfl
theorem nbor_din (n : Bool) (a : E) (i : Nat) : isBor (.din n a i) = false := id rfl
theorem nbor_dsp (k : Int) (a : E) : isBor (.dsp k a) = false := id rfl
theorem nbor_pin (a : E) : isBor (.pin a) = false := id rfl
theorem nbor_compK (elt : E) (ts : List Nat) (i : Nat) (c : E) : isBor (.compK elt ts i c) = false := id rfl
theorem nbor_frz (a : E) : isBor (.frz a) = false := id rfl
theorem nbor_comp (elt : E) (ts : List Nat) (k : IK) (es c : E) : isBor (.comp elt ts k es c) = false := id rfl
theorem nbor_comp2 (elt : E) (ts : List Nat) (k : IK) (es : E) (us : List Nat) (l : IK) (fs c : E) : isBor (.comp2 elt ts k es us l fs c) = false := id rfl
theorem nvar_lit (d : D) : isVar (.lit d) = false := id rfl
theorem nvar_op (p : Prim) (es : E) : isVar (.op p es) = false := id rfl
theorem nvar_and (a b : E) : isVar (.and a b) = false := id rfl
theorem nvar_or (a b : E) : isVar (.or a b) = false := id rfl
theorem nvar_ife (a b c : E) : isVar (.ife a b c) = false := id rfl
theorem nvar_chn (p q : Prim) (a b c : E) : isVar (.chn p q a b c) = false := id rfl
theorem nvar_lst (es : E) : isVar (.lst es) = false := id rfl
theorem nvar_tup (es : E) : isVar (.tup es) = false := id rfl
theorem nvar_call (f : Nat) (pm : List Nat) (es : E) : isVar (.call f pm es) = false := id rfl
theorem nvar_pop (i : Nat) (es : E) : isVar (.pop i es) = false := id rfl
theorem nvar_pop0 (i : Nat) : isVar (.pop0 i) = false := id rfl
theorem nvar_callT (f : Nat) (es : E) : isVar (.callT f es) = false := id rfl
theorem nvar_dget (i : Nat) (k : E) : isVar (.dget i k) = false := id rfl
theorem nvar_din (n : Bool) (a : E) (i : Nat) : isVar (.din n a i) = false := id rfl
theorem nvar_dsp (k : Int) (a : E) : isVar (.dsp k a) = false := id rfl
theorem nvar_pin (a : E) : isVar (.pin a) = false := id rfl
theorem nvar_compK (elt : E) (ts : List Nat) (i : Nat) (c : E) : isVar (.compK elt ts i c) = false := id rfl
theorem nvar_frz (a : E) : isVar (.frz a) = false := id rfl
theorem nvar_comp (elt : E) (ts : List Nat) (k : IK) (es c : E) : isVar (.comp elt ts k es c) = false := id rfl
theorem nvar_comp2 (elt : E) (ts : List Nat) (k : IK) (es : E) (us : List Nat) (l : IK) (fs c : E) : isVar (.comp2 elt ts k es us l fs c) = false := id rfl
theorem frz_int (a : Int) : frz (.int a) = .int a := id rfl
theorem frz_bl (a : Bool) : frz (.bl a) = .bl a := id rfl
theorem frz_non : frz .non = .non := id rfl
theorem frz_str (a : Str) : frz (.str a) = .str a := id rfl
theorem frz_scr (a : List Int) : frz (.scr a) = .scr a := id rfl
theorem lent_nil : lent .nil = [] := id rfl
theorem lent_bor (i : Nat) (es : E) : lent (.cons (.bor i) es) = i :: lent es := id rfl
theorem lent_ncons {a : E} (h : isBor a = false) (es : E) : lent (.cons a es) = lent es := by
  cases a <;> first | rfl | (unfold lent; rfl) | (simp [isBor] at h)
theorem line_0 : (([] : List D).length ≤ line) = True := eq_true (by show 0 ≤ line; decide)
theorem line_1 (a0 : D) : (([a0] : List D).length ≤ line) = True := eq_true (by show 1 ≤ line; decide)
theorem line_2 (a0 a1 : D) : (([a0, a1] : List D).length ≤ line) = True := eq_true (by show 2 ≤ line; decide)
theorem line_3 (a0 a1 a2 : D) : (([a0, a1, a2] : List D).length ≤ line) = True := eq_true (by show 3 ≤ line; decide)
theorem line_4 (a0 a1 a2 a3 : D) : (([a0, a1, a2, a3] : List D).length ≤ line) = True := eq_true (by show 4 ≤ line; decide)
theorem line_5 (a0 a1 a2 a3 a4 : D) : (([a0, a1, a2, a3, a4] : List D).length ≤ line) = True := eq_true (by show 5 ≤ line; decide)
theorem line_6 (a0 a1 a2 a3 a4 a5 : D) : (([a0, a1, a2, a3, a4, a5] : List D).length ≤ line) = True := eq_true (by show 6 ≤ line; decide)
theorem line_7 (a0 a1 a2 a3 a4 a5 a6 : D) : (([a0, a1, a2, a3, a4, a5, a6] : List D).length ≤ line) = True := eq_true (by show 7 ≤ line; decide)
theorem line_8 (a0 a1 a2 a3 a4 a5 a6 a7 : D) : (([a0, a1, a2, a3, a4, a5, a6, a7] : List D).length ≤ line) = True := eq_true (by show 8 ≤ line; decide)
theorem flat_int (a : Int) : flat (.int a) = true := id rfl
theorem flat_bl (a : Bool) : flat (.bl a) = true := id rfl
theorem flat_non : flat .non = true := id rfl
theorem flat_str (a : Str) : flat (.str a) = true := id rfl
theorem fresh_int (a : Int) : isFresh (.int a) = true := id rfl
theorem fresh_bl (a : Bool) : isFresh (.bl a) = true := id rfl
theorem fresh_non : isFresh .non = true := id rfl
theorem fresh_str (a : Str) : isFresh (.str a) = true := id rfl
/-! loops -/
/-- what a turn may leave -/
def turnQ (I : Env → Prop) (Q : Out → Prop) : Out → Prop
  | .nx e => I e
  | .ct e => I e
  | .brk e => Q (.nx e)
  | .ret d e => Q (.ret d e)
theorem turnQ_nx (I : Env → Prop) (Q : Out → Prop) : turnQ I Q (.nx env) = I env := id rfl
theorem turnQ_ct (I : Env → Prop) (Q : Out → Prop) : turnQ I Q (.ct env) = I env := id rfl
theorem turnQ_brk (I : Env → Prop) (Q : Out → Prop) : turnQ I Q (.brk env) = Q (.nx env) := id rfl
theorem turnQ_ret (I : Env → Prop) (Q : Out → Prop) (d : D) : turnQ I Q (.ret d env) = Q (.ret d env) := id rfl
/-- a loop: I tells what holds with the things that are left -/
theorem ok_forL {turn : D → Env → R Out} {f : β → D} {l : List β} {Q : Out → Prop} (I : List β → Env → Prop) (h0 : I l env) (hs : ∀ y r env, (∃ d, d ++ y :: r = l) → I (y :: r) env → Ok (turn (f y) env) (turnQ (I r) Q)) (hn : ∀ env, I [] env → Q (.nx env)) : Ok (forL turn (l.map f) env) Q := by
  have main : ∀ (r : List β) (env : Env), (∃ d, d ++ r = l) → I r env → Ok (forL turn (r.map f) env) Q := by
    intro r
    induction r with
    | nil => intro env _ h; exact hn env h
    | cons y r ih =>
      intro env ⟨d, hd⟩ h
      have h1 := hs y r env ⟨d, hd⟩ h
      obtain ⟨o, e, q⟩ := h1.elim
      rw [List.map_cons]
      unfold forL
      rw [e]
      have hd' : ∃ d, d ++ r = l := ⟨d ++ [y], by rw [List.append_assoc]; exact hd⟩
      cases o with
      | nx e1 => exact ih e1 hd' q
      | ct e1 => exact ih e1 hd' q
      | brk e1 => exact q
      | ret d e1 => exact q
  exact main l env ⟨[], rfl⟩ h0
/-- .. with a state that each thing changes -/
theorem ok_forL_st {σ : Type} {turn : D → Env → R Out} {f : β → D} {l : List β} {Q : Out → Prop} (step : σ → β → σ) (s0 : σ) (I : σ → Env → Prop) (h0 : I s0 env) (hs : ∀ y s env, y ∈ l → I s env → Ok (turn (f y) env) (turnQ (I (step s y)) Q)) (hn : ∀ env, I (l.foldl step s0) env → Q (.nx env)) : Ok (forL turn (l.map f) env) Q := by
  refine ok_forL (fun r env => ∃ s, I s env ∧ r.foldl step s = l.foldl step s0) ⟨s0, h0, rfl⟩ (fun y r env ⟨d, hd⟩ ⟨s, hi, he⟩ => ?_) fun env ⟨s, hi, he⟩ => hn env (by rw [← he]; exact hi)
  have hy : y ∈ l := by rw [← hd]; simp
  refine (hs y s env hy hi).mono fun o q => ?_
  cases o with
  | nx e => exact ⟨_, q, he⟩
  | ct e => exact ⟨_, q, he⟩
  | brk e => exact q
  | ret d e => exact q
theorem ok_whileL {cnd : Env → R (D × Env)} {body : Env → R Out} {Q : Out → Prop} (P : Nat → Env → Prop) (ht : ∀ m env, P m env → Ok (cnd env) fun p => trK p.1 fun t => brK t (Ok (body p.2) (turnQ (fun e => ∃ k, k < m ∧ P k e) Q)) (Q (.nx p.2))) :
    ∀ (m fuel : Nat) (env : Env), m < fuel → P m env → Ok (whileL cnd body fuel env) Q := by
  intro m
  induction m using Nat.strongRecOn with
  | ind m ih =>
    intro fuel env hf hp
    cases fuel with
    | zero => omega
    | succ fuel =>
      obtain ⟨⟨d, e1⟩, h1, h2⟩ := (ht m env hp).elim
      unfold whileL
      rw [h1]
      cases d with
      | bl t =>
        cases t with
        | false => exact h2
        | true =>
          have h2 : Ok (body e1) (turnQ (fun e => ∃ k, k < m ∧ P k e) Q) := h2
          obtain ⟨o, h3, h4⟩ := h2.elim
          simp only [bind_ok, KS.truth, if_true]
          rw [h3]
          cases o with
          | nx e2 => obtain ⟨k, hk, hp⟩ := h4; exact ih k hk fuel e2 (by omega) hp
          | ct e2 => obtain ⟨k, hk, hp⟩ := h4; exact ih k hk fuel e2 (by omega) hp
          | brk e2 => exact h4
          | ret d e2 => exact h4
      | _ => exact h2.elim
/-- a comprehension: I tells what holds with the things that are left and what was gathered -/
theorem ok_compL {turn : D → Env → R (Option D × Env)} {f : β → D} {l : List β} {acc : List D} {Q : List D × Env → Prop} (I : List β → List D → Env → Prop) (h0 : I l acc env) (hs : ∀ y r acc env, y ∈ l → I (y :: r) acc env → Ok (turn (f y) env) fun p => I r (acc ++ p.1.toList) p.2) (hn : ∀ acc env, I [] acc env → Q (acc, env)) : Ok (compL turn (l.map f) env acc) Q := by
  induction l generalizing env acc with
  | nil => exact hn acc env h0
  | cons y l ih =>
    obtain ⟨⟨o, e1⟩, h1, h2⟩ := (hs y l acc env List.mem_cons_self h0).elim
    rw [List.map_cons]
    unfold compL
    rw [h1]
    cases o with
    | none =>
      have h2 : I l (acc ++ []) e1 := h2
      rw [List.append_nil] at h2
      exact ih h2 (fun z r acc env hz => hs z r acc env (List.mem_cons_of_mem _ hz))
    | some v => exact ih h2 (fun z r acc env hz => hs z r acc env (List.mem_cons_of_mem _ hz))
/-- one value for each thing -/
theorem ok_compM {turn : D → Env → R (Option D × Env)} {f : β → D} {l : List β} {acc : List D} {Q : List D × Env → Prop} (g : β → D) (P : Env → Prop) (h0 : P env) (hs : ∀ y env, y ∈ l → P env → Ok (turn (f y) env) fun p => p.1 = some (g y) ∧ P p.2) (hn : ∀ env, P env → Q (acc ++ l.map g, env)) : Ok (compL turn (l.map f) env acc) Q := by
  refine ok_compL (fun r a env => a ++ r.map g = acc ++ l.map g ∧ P env) ⟨rfl, h0⟩ (fun y r a env hy ⟨ha, hp⟩ => (hs y env hy hp).mono fun p ⟨h1, h2⟩ => ⟨?_, h2⟩) fun a env ⟨ha, hp⟩ => ?_
  · rw [h1, ← ha]; simp
  · rw [List.map_nil, List.append_nil] at ha; rw [ha]; exact hn env hp
/-- .. for those that are chosen -/
theorem ok_compF {turn : D → Env → R (Option D × Env)} {f : β → D} {l : List β} {acc : List D} {Q : List D × Env → Prop} (q : β → Bool) (g : β → D) (P : Env → Prop) (h0 : P env) (hs : ∀ y env, y ∈ l → P env → Ok (turn (f y) env) fun p => p.1 = (if q y = true then some (g y) else none) ∧ P p.2) (hn : ∀ env, P env → Q (acc ++ (l.filter q).map g, env)) : Ok (compL turn (l.map f) env acc) Q := by
  refine ok_compL (fun r a env => a ++ (r.filter q).map g = acc ++ (l.filter q).map g ∧ P env) ⟨rfl, h0⟩ (fun y r a env hy ⟨ha, hp⟩ => (hs y env hy hp).mono fun p ⟨h1, h2⟩ => ⟨?_, h2⟩) fun a env ⟨ha, hp⟩ => ?_
  · rw [h1, ← ha]
    cases hq : q y <;> simp [hq]
  · rw [List.filter_nil, List.map_nil, List.append_nil] at ha; rw [ha]; exact hn env hp
/-- a turn from the wiped names -/
def turnW (C : Ctx) (elt : E) (ts : List Nat) (c : E) (x : D) (env : Env) (Q : Option D × Env → Prop) : Prop := Ok (setT C env ts x) fun env => Ok (evE C c env) fun p => trK p.1 fun t => brK t (Ok (evE C elt p.2) fun r => Q (some r.1, r.2)) (Q (none, p.2))
theorem ok_turnW (elt : E) (ts : List Nat) (c : E) (x : D) (Q : Option D × Env → Prop) : turnW C elt ts c x env Q = Ok (setT C env ts x) fun env => Ok (evE C c env) fun p => trK p.1 fun t => brK t (Ok (evE C elt p.2) fun r => Q (some r.1, r.2)) (Q (none, p.2)) := id rfl
/-- a comprehension that changes nothing: one value for each thing -/
theorem ok_compW {elt c : E} {ts : List Nat} {f : β → D} {l : List β} {acc : List D} {Q : List D × Env → Prop} (g : β → D) (hs : ∀ y, y ∈ l → turnW C elt ts c (f y) (wipeE env ts) fun p => p.1 = some (g y) ∧ wipeE p.2 ts = wipeE env ts) (hn : ∀ e, wipeE e ts = wipeE env ts → Q (acc ++ l.map g, e)) : Ok (compL (turnC C elt ts c) (l.map f) env acc) Q :=
  ok_compM g (fun e => wipeE e ts = wipeE env ts) rfl (fun y e hy he => by rw [ok_turnC, he]; exact hs y hy) hn
/-- .. of those that are chosen -/
theorem ok_compFW {elt c : E} {ts : List Nat} {f : β → D} {l : List β} {acc : List D} {Q : List D × Env → Prop} (q : β → Bool) (g : β → D) (hs : ∀ y, y ∈ l → turnW C elt ts c (f y) (wipeE env ts) fun p => p.1 = (if q y = true then some (g y) else none) ∧ wipeE p.2 ts = wipeE env ts) (hn : ∀ e, wipeE e ts = wipeE env ts → Q (acc ++ (l.filter q).map g, e)) : Ok (compL (turnC C elt ts c) (l.map f) env acc) Q :=
  ok_compF q g (fun e => wipeE e ts = wipeE env ts) rfl (fun y e hy he => by rw [ok_turnC, he]; exact hs y hy) hn
/-- two clauses -/
theorem ok_compL2 {turn : D → Env → List D → R (List D × Env)} {f : β → D} {l : List β} {acc : List D} {Q : List D × Env → Prop} (I : List β → List D → Env → Prop) (h0 : I l acc env) (hs : ∀ y r acc env, y ∈ l → I (y :: r) acc env → Ok (turn (f y) env acc) fun p => I r p.1 p.2) (hn : ∀ acc env, I [] acc env → Q (acc, env)) : Ok (compL2 turn (l.map f) env acc) Q := by
  induction l generalizing env acc with
  | nil => exact hn acc env h0
  | cons y l ih =>
    obtain ⟨⟨a, e1⟩, h1, h2⟩ := (hs y l acc env List.mem_cons_self h0).elim
    rw [List.map_cons]
    unfold compL2
    rw [h1]
    exact ih h2 (fun z r acc env hz => hs z r acc env (List.mem_cons_of_mem _ hz))
theorem flatMap_done (m : β → List D) (d r : List β) (y : β) : (d ++ [y]).flatMap m = d.flatMap m ++ m y := by simp
theorem ok_compM2 {turn : D → Env → List D → R (List D × Env)} {f : β → D} {l : List β} {Q : List D × Env → Prop} (m : β → List D) (P : Env → Prop) (n : Nat) (h0 : P env) (hl : (l.flatMap m).length ≤ n) (hs : ∀ y env acc, y ∈ l → P env → acc.length + (m y).length ≤ n → Ok (turn (f y) env acc) fun p => p.1 = acc ++ m y ∧ P p.2) (hn : ∀ env, P env → Q (l.flatMap m, env)) : Ok (compL2 turn (l.map f) env []) Q := by
  refine ok_compL2 (fun r a env => a ++ r.flatMap m = l.flatMap m ∧ P env) ⟨rfl, h0⟩ (fun y r a env hy ⟨ha, hp⟩ => (hs y env a hy hp ?_).mono fun p ⟨h1, h2⟩ => ⟨?_, h2⟩) fun a env ⟨ha, hp⟩ => ?_
  · have := congrArg List.length ha
    rw [List.flatMap_cons, List.length_append, List.length_append] at this
    omega
  · rw [h1, ← ha]; simp
  · rw [List.flatMap_nil, List.append_nil] at ha; rw [ha]; exact hn env hp
/-- two clauses that change nothing -/
theorem ok_compW2 {elt c fs : E} {ts us : List Nat} {lk : IK} {f : β → D} {l : List β} {Q : List D × Env → Prop} (m : β → List D) (hl : (l.flatMap m).length ≤ line) (hs : ∀ y acc, y ∈ l → acc.length + (m y).length ≤ line → Ok (setT C (wipeE env (ts ++ us)) ts (f y)) fun e => Ok (evL C fs e) fun p => itK lk p.1 fun ys => acc.length + ys.length ≤ line ∧ Ok (compL (turnC C elt us c) ys p.2 acc) fun r => r.1 = acc ++ m y ∧ wipeE r.2 (ts ++ us) = wipeE env (ts ++ us)) (hn : ∀ e, wipeE e (ts ++ us) = wipeE env (ts ++ us) → Q (l.flatMap m, e)) : Ok (compL2 (turnD C elt ts us lk fs c) (l.map f) env []) Q :=
  ok_compM2 m (fun e => wipeE e (ts ++ us) = wipeE env (ts ++ us)) line rfl hl (fun y e acc hy he ha => by rw [ok_turnD, he]; exact hs y acc hy ha) hn
/-! a def -/
def finK (io : Bool) (o : Out) (Q : D × D → Prop) : Prop := match o with
  | .ret d env => if io = true then getK env 0 fun d1 => Q (d, d1) else Q (d, .non)
  | .nx env => if io = true then getK env 0 fun d1 => Q (.non, d1) else Q (.non, .non)
  | _ => False
theorem finK_r (d : D) (Q : D × D → Prop) : finK false (.ret d env) Q = Q (d, .non) := id rfl
theorem finK_n (Q : D × D → Prop) : finK false (.nx env) Q = Q (.non, .non) := id rfl
theorem finK_ri (d d1 : D) (Q : D × D → Prop) : finK true (.ret d (some d1 :: env)) Q = Q (d, d1) := id rfl
theorem finK_ni (d1 : D) (Q : D × D → Prop) : finK true (.nx (some d1 :: env)) Q = Q (.non, d1) := id rfl
def ioT (tbl : List FnI) (g : Nat) : Bool := ((tbl[g]?).map (·.io)).getD false
/-- the callees: not looked into -/
@[irreducible] def runI (tbl : List FnI) (fuel n : Nat) : Nat → List D → R (D × D) := run tbl fuel n
theorem runI_eq (tbl : List FnI) (fuel n : Nat) : runI tbl fuel n = run tbl fuel n := by unfold runI; rfl
def cxT (tbl : List FnI) (fuel : Nat) (io : Bool) (n : Nat) : Ctx := { fx := io, io := ioT tbl, run := runI tbl fuel n, fuel := fuel }
theorem cxT_fx (tbl : List FnI) (fuel : Nat) (io : Bool) (n : Nat) : (cxT tbl fuel io n).fx = io := id rfl
theorem cxT_io (tbl : List FnI) (fuel : Nat) (io : Bool) (n : Nat) : (cxT tbl fuel io n).io = ioT tbl := id rfl
theorem cxT_run (tbl : List FnI) (fuel : Nat) (io : Bool) (n : Nat) : (cxT tbl fuel io n).run = runI tbl fuel n := id rfl
theorem cxT_fuel (tbl : List FnI) (fuel : Nat) (io : Bool) (n : Nat) : (cxT tbl fuel io n).fuel = fuel := id rfl
theorem ok_run {tbl : List FnI} {fuel i : Nat} {F : FnI} (h : tbl[i]? = some F) (n : Nat) (ds : List D) (hl : ds.length = F.np) (Q : D × D → Prop) : Ok (runI tbl fuel (n + 1) i ds) Q = Ok (evS (cxT tbl fuel F.io n) F.body (ds.map some ++ List.replicate (F.ns - F.np) none)) fun o => finK F.io o Q := by
  rw [runI_eq, run_succ h n ds hl]
  have ec : cxT tbl fuel F.io n = { fx := F.io, io := fun g => ((tbl[g]?).map (·.io)).getD false, run := run tbl fuel n, fuel := fuel } := by unfold cxT; rw [runI_eq]; rfl
  rw [ec, ok_bind]
  (first | refine okc fun o => ?_ | refine gtc fun o => ?_ | refine trc fun o => ?_ | refine itc fun o => ?_)
  cases o with
  | ret d env =>
    show Ok (fin F.io d env) Q = _
    unfold fin finK
    cases F.io with
    | true => show Ok (getE env 0 >>= fun d1 => R.ok (d, d1)) Q = _; rw [ok_bind, ok_getE]; rfl
    | false => rfl
  | nx env =>
    show Ok (fin F.io .non env) Q = _
    unfold fin finK
    cases F.io with
    | true => show Ok (getE env 0 >>= fun d1 => R.ok (.non, d1)) Q = _; rw [ok_bind, ok_getE]; rfl
    | false => rfl
  | brk env => rfl
  | ct env => rfl
end
end KS
set_option Elab.async false
set_option linter.all false
set_option autoImplicit false
set_option maxRecDepth 100000
namespace KS
open PySem L2
/-! ### operations on numbers and on lists of numbers, from the head -/
section
variable {C : Ctx} {env : Env} {ln : List Nat} {Q : D × Env → Prop}
/-- nothing in it is owned, or it does not matter -/
theorem opK_eq {p : Prim} {ds : List D} (h : prim p (ds.map frz) = prim p ds) : opK p ln ds env Q = Ok (prim p ds) fun d => Q (d, env) := by
  unfold opK opR
  cases hp : prim p ds with
  | ok d => rfl
  | exc c fs => rw [h, hp]; rfl
  | bad => rw [h, hp]; rfl
/-- what is lent is frozen -/
theorem opK_frz {p : Prim} {ds : List D} (hb : prim p ds = .bad) : opK p ln ds env Q = Ok (prim p (ds.map frz)) fun d => Q (d, frzAll env ln) := by
  unfold opK opR
  rw [hb]
  cases prim p (ds.map frz) <;> rfl
theorem vadd (a b : Int) : opK .add ln [.int a, .int b] env Q = Q (.int (a + b), env) := id rfl
theorem vsub (a b : Int) : opK .sub ln [.int a, .int b] env Q = Q (.int (a - b), env) := id rfl
theorem vneg (a : Int) : opK .neg ln [.int a] env Q = Q (.int (-a), env) := id rfl
theorem vnt (a : Bool) : opK .nt ln [.bl a] env Q = Q (.bl (!a), env) := id rfl
theorem vlt (a b : Int) : opK .lt ln [.int a, .int b] env Q = Q (.bl (decide (a < b)), env) := id rfl
theorem vle (a b : Int) : opK .le ln [.int a, .int b] env Q = Q (.bl (decide (a ≤ b)), env) := id rfl
theorem vgt (a b : Int) : opK .gt ln [.int a, .int b] env Q = Q (.bl (decide (b < a)), env) := id rfl
theorem vge (a b : Int) : opK .ge ln [.int a, .int b] env Q = Q (.bl (decide (b ≤ a)), env) := id rfl
theorem plt (a b : Int) : prim .lt [.int a, .int b] = .ok (.bl (decide (a < b))) := id rfl
theorem ple (a b : Int) : prim .le [.int a, .int b] = .ok (.bl (decide (a ≤ b))) := id rfl
theorem pgt (a b : Int) : prim .gt [.int a, .int b] = .ok (.bl (decide (b < a))) := id rfl
theorem pge (a b : Int) : prim .ge [.int a, .int b] = .ok (.bl (decide (b ≤ a))) := id rfl
theorem padd (a b : Int) : prim .add [.int a, .int b] = .ok (.int (a + b)) := id rfl
theorem psub (a b : Int) : prim .sub [.int a, .int b] = .ok (.int (a - b)) := id rfl
theorem vint (a : Int) : opK .int ln [.int a] env Q = Q (.int a, env) := id rfl
theorem vintb (a : Bool) : opK .int ln [.bl a] env Q = Q (.int (if a then 1 else 0), env) := id rfl
theorem vabs (a : Int) : opK .abs ln [.int a] env Q = Q (.int (if a < 0 then -a else a), env) := id rfl
theorem vmax (a b : Int) : opK .max2 ln [.int a, .int b] env Q = Q (.int (if b > a then b else a), env) := id rfl
theorem vmin (a b : Int) : opK .min2 ln [.int a, .int b] env Q = Q (.int (if b < a then b else a), env) := id rfl
theorem beq_dec (a b : Int) : (a == b) = decide (a = b) := by
  by_cases h : a = b <;> simp [h]
theorem veq (a b : Int) : opK .eq ln [.int a, .int b] env Q = Q (.bl (decide (a = b)), env) := by rw [← beq_dec]; rfl
theorem vne (a b : Int) : opK .ne ln [.int a, .int b] env Q = Q (.bl (!decide (a = b)), env) := by rw [← beq_dec]; rfl
theorem veqs (a b : Str) : opK .eq ln [.str a, .str b] env Q = Q (.bl (a == b), env) := id rfl
theorem vnes (a b : Str) : opK .ne ln [.str a, .str b] env Q = Q (.bl (!(a == b)), env) := id rfl
theorem veqb (a b : Bool) : opK .eq ln [.bl a, .bl b] env Q = Q (.bl (a == b), env) := id rfl
theorem vneb (a b : Bool) : opK .ne ln [.bl a, .bl b] env Q = Q (.bl (!(a == b)), env) := id rfl
theorem visN_n : opK .isN ln [.non] env Q = Q (.bl true, env) := id rfl
theorem visN_i (a : Int) : opK .isN ln [.int a] env Q = Q (.bl false, env) := id rfl
theorem visN_l (o : Bool) (xs : List D) : opK .isN ln [.lst o xs] env Q = Q (.bl false, env) := id rfl
theorem vnotN_n : opK .notN ln [.non] env Q = Q (.bl false, env) := id rfl
theorem vnotN_i (a : Int) : opK .notN ln [.int a] env Q = Q (.bl true, env) := id rfl
theorem vnotN_l (o : Bool) (xs : List D) : opK .notN ln [.lst o xs] env Q = Q (.bl true, env) := id rfl
theorem visI (d : D) (h : isiOk d = true) : opK .isInt ln [d] env Q = Q (.bl (isIntD d), env) := by unfold opK opR; simp only [prim, pIsi, h, if_true]; rfl
theorem visB (d : D) (h : isiOk d = true) : opK .isBool ln [d] env Q = Q (.bl (isBoolD d), env) := by unfold opK opR; simp only [prim, pIsi, h, if_true]; rfl
theorem visL (d : D) (h : isiOk d = true) : opK .isList ln [d] env Q = Q (.bl (isListD d), env) := by unfold opK opR; simp only [prim, pIsi, h, if_true]; rfl
theorem vpart_n : opK .part ln [.non] env Q = Q (.non, env) := id rfl
theorem vpart_i (a : Int) : opK .part ln [.int a] env Q = Q (.int a, env) := id rfl
theorem qlt (a b : Int) (K : D → Prop) : Ok (prim .lt [.int a, .int b]) K = K (.bl (decide (a < b))) := id rfl
theorem qle (a b : Int) (K : D → Prop) : Ok (prim .le [.int a, .int b]) K = K (.bl (decide (a ≤ b))) := id rfl
theorem qgt (a b : Int) (K : D → Prop) : Ok (prim .gt [.int a, .int b]) K = K (.bl (decide (b < a))) := id rfl
theorem qge (a b : Int) (K : D → Prop) : Ok (prim .ge [.int a, .int b]) K = K (.bl (decide (b ≤ a))) := id rfl
theorem qadd (a b : Int) (K : D → Prop) : Ok (prim .add [.int a, .int b]) K = K (.int (a + b)) := id rfl
theorem qsub (a b : Int) (K : D → Prop) : Ok (prim .sub [.int a, .int b]) K = K (.int (a - b)) := id rfl
theorem okg (b : Bool) (d : D) (Q : D → Prop) : Ok (if b = true then R.ok d else .bad) Q = (b = true ∧ Q d) := by cases b <;> simp [Ok]
theorem pmul (a b : Int) (Q : D → Prop) : Ok (prim .mul [.int a, .int b]) Q = ((a.natAbs < 2 ^ 63 ∨ b.natAbs < 2 ^ 63) ∧ Q (.int (a * b))) := by
  show Ok (if (decide (a.natAbs < 2 ^ 63) || decide (b.natAbs < 2 ^ 63)) = true then R.ok (D.int (a * b)) else .bad) Q = _
  rw [okg, Bool.or_eq_true, decide_eq_true_eq, decide_eq_true_eq]
theorem vmul (a b : Int) : opK .mul ln [.int a, .int b] env Q = ((a.natAbs < 2 ^ 63 ∨ b.natAbs < 2 ^ 63) ∧ Q (.int (a * b), env)) := by rw [opK_eq rfl, pmul]
theorem pmod (a b : Int) (Q : D → Prop) : Ok (prim .mod [.int a, .int b]) Q = (b ≠ 0 ∧ Q (.int (a.fmod b))) := by
  show Ok (if decide (b ≠ 0) = true then R.ok (D.int (a.fmod b)) else .bad) Q = _
  rw [okg, decide_eq_true_eq]
theorem vmod (a b : Int) : opK .mod ln [.int a, .int b] env Q = (b ≠ 0 ∧ Q (.int (a.fmod b), env)) := by rw [opK_eq rfl, pmod]
theorem pfdiv (a b : Int) (Q : D → Prop) : Ok (prim .fdiv [.int a, .int b]) Q = ((b ≠ 0 ∧ b.natAbs < 1073741824) ∧ Q (.int (a.fdiv b))) := by
  show Ok (if (decide (b ≠ 0) && decide (b.natAbs < 1073741824)) = true then R.ok (D.int (a.fdiv b)) else .bad) Q = _
  rw [okg, Bool.and_eq_true, decide_eq_true_eq, decide_eq_true_eq]
theorem vfdiv (a b : Int) : opK .fdiv ln [.int a, .int b] env Q = ((b ≠ 0 ∧ b.natAbs < 1073741824) ∧ Q (.int (a.fdiv b), env)) := by rw [opK_eq rfl, pfdiv]
theorem vpow (a n : Int) : opK .pow ln [.int a, .int n] env Q = ((0 ≤ n ∧ (Builtin.Int.intBits a : Int) * n ≤ 2 ^ 27) ∧ Q (.int (a ^ n.toNat), env)) := by
  rw [opK_eq rfl]
  show Ok (if (decide (0 ≤ n) && decide ((Builtin.Int.intBits a : Int) * n ≤ 2 ^ 27)) = true then R.ok (D.int (a ^ n.toNat)) else .bad) _ = _
  rw [okg, Bool.and_eq_true, decide_eq_true_eq, decide_eq_true_eq]
theorem vshl (a n : Int) : opK .shl ln [.int a, .int n] env Q = (((0 ≤ n ∧ n ≤ 1000000) ∧ a.natAbs < 2 ^ 64) ∧ Q (.int (a * 2 ^ n.toNat), env)) := by
  rw [opK_eq rfl]
  show Ok (if (decide (0 ≤ n) && decide (n ≤ 1000000) && decide (a.natAbs < 2 ^ 64)) = true then R.ok (D.int (a * 2 ^ n.toNat)) else .bad) _ = _
  rw [okg, Bool.and_eq_true, Bool.and_eq_true, decide_eq_true_eq, decide_eq_true_eq, decide_eq_true_eq]
theorem vshr (a n : Int) : opK .shr ln [.int a, .int n] env Q = (0 ≤ n ∧ Q (.int (a / 2 ^ n.toNat), env)) := by
  rw [opK_eq rfl]
  show Ok (if decide (0 ≤ n) = true then R.ok (D.int (a / 2 ^ n.toNat)) else .bad) _ = _
  rw [okg, decide_eq_true_eq]
theorem vband (a b : Int) : opK .band ln [.int a, .int b] env Q = Q (.int (Builtin.bitAnd a b), env) := id rfl
/-! lists -/
theorem vlen (o : Bool) (xs : List D) : opK .len ln [.lst o xs] env Q = Q (.int xs.length, env) := id rfl
theorem vlen_t (xs : List D) : opK .len ln [.tup xs] env Q = Q (.int xs.length, env) := id rfl
theorem vlen_il (o : Bool) (ns : List Int) : opK .len ln [il o ns] env Q = Q (.int ns.length, env) := by
  rw [il, vlen, List.length_map]
/-- the item at a place, from the end where it is below 0 -/
def ixI (ns : List Int) (i : Int) : Int := ns.getD (if 0 ≤ i then i else i + ns.length).toNat 0
theorem ixI_pos {ns : List Int} {i : Int} (h : 0 ≤ i) : ixI ns i = ns.getD i.toNat 0 := by unfold ixI; rw [if_pos h]
theorem ixI_nat (ns : List Int) (i : Nat) : ixI ns (i : Int) = ns.getD i 0 := by rw [ixI_pos (by omega)]; rfl
def ixOk (n : Nat) (i : Int) : Prop := -(n : Int) ≤ i ∧ i < n
theorem ixN_eq (n : Nat) (i : Int) : ixN n i = if -(n : Int) ≤ i ∧ i < n then some (if 0 ≤ i then i else i + n).toNat else none := by
  unfold ixN
  by_cases h0 : 0 ≤ i
  · rw [if_pos h0, if_pos h0]
    by_cases h1 : i < n
    · rw [if_pos h1, if_pos ⟨by omega, h1⟩]
    · rw [if_neg h1, if_neg (by omega)]
  · rw [if_neg h0, if_neg h0]
    by_cases h1 : -(n : Int) ≤ i
    · rw [if_pos h1, if_pos ⟨by omega, by omega⟩]
    · rw [if_neg h1, if_neg (by omega)]
theorem getIx_int (ns : List Int) (i : Int) (K : D → Prop) : Ok (getIx (ns.map .int) i) K = (ixOk ns.length i ∧ K (.int (ixI ns i))) := by
  unfold getIx atI
  rw [List.length_map, ixN_eq]
  by_cases h : -(ns.length : Int) ≤ i ∧ i < ns.length
  · rw [if_pos h]
    have hl : (if 0 ≤ i then i else i + ns.length).toNat < ns.length := by split <;> omega
    have hi : ixI ns i = ns[(if 0 ≤ i then i else i + ns.length).toNat] := by
      unfold ixI; rw [List.getD_eq_getElem?_getD, List.getElem?_eq_getElem hl]; rfl
    simp only [Option.bind_some, List.getElem?_map, List.getElem?_eq_getElem hl, Option.map_some, noOwn, if_true]
    rw [hi]
    show K _ = _
    simp [ixOk, h]
  · rw [if_neg h]
    simp [Ok, ixOk, h]
theorem vix_il (o : Bool) (ns : List Int) (i : Int) : opK .ix ln [il o ns, .int i] env Q = (ixOk ns.length i ∧ Q (.int (ixI ns i), env)) := by
  rw [opK_eq (by show prim .ix [frz (il o ns), .int i] = _; rw [frz_il]; rfl)]
  exact getIx_int ns i _
theorem noOwnL_il (ns : List Int) : noOwnL (ns.map .int) = true := noOwnL_int ns
def optI' : D → Option (Option Int)
  | .non => some none
  | .int i => some (some i)
  | _ => none
theorem vsl_il {o : Bool} {ns : List Int} {a b : D} {lo hi : Option Int} (ha : optI a = .ok lo) (hb : optI b = .ok hi) : opK .sl ln [il o ns, a, b] env Q = Q (il true (cut ns lo hi), env) := by
  have e : ∀ o, prim .sl [il o ns, a, b] = .ok (il true (cut ns lo hi)) := by
    intro o
    show (match optI a, optI b with | .ok lo, .ok hi => if noOwnL (ns.map .int) = true then R.ok (D.lst true (cut (ns.map .int) lo hi)) else .bad | _, _ => .bad) = _
    rw [ha, hb]
    show (if noOwnL (ns.map .int) = true then _ else _) = _
    rw [noOwnL_int, if_pos rfl]
    unfold cut il
    simp [List.map_take, List.map_drop]
  unfold opK opR
  rw [e]; rfl
theorem vsl_scr {ns : List Int} {a b : D} {lo hi : Option Int} (ha : optI a = .ok lo) (hb : optI b = .ok hi) : opK .sl ln [.scr ns, a, b] env Q = Q (il true (cut ns lo hi), env) := by
  have e : prim .sl [.scr ns, a, b] = .ok (il true (cut ns lo hi)) := by
    show (match optI a, optI b with | .ok lo, .ok hi => R.ok (D.lst true ((cut ns lo hi).map .int)) | _, _ => .bad) = _
    rw [ha, hb]; rfl
  unfold opK opR
  rw [e]; rfl
theorem vscr_ii (ns : List Int) (i j : Int) : opK .sl ln [.scr ns, .int i, .int j] env Q = Q (il true (cut ns (some i) (some j)), env) := vsl_scr rfl rfl
theorem vscr_ni (ns : List Int) (j : Int) : opK .sl ln [.scr ns, .non, .int j] env Q = Q (il true (cut ns none (some j)), env) := vsl_scr rfl rfl
theorem vscr_in (ns : List Int) (i : Int) : opK .sl ln [.scr ns, .int i, .non] env Q = Q (il true (cut ns (some i) none), env) := vsl_scr rfl rfl
theorem vsl_ii (o : Bool) (ns : List Int) (i j : Int) : opK .sl ln [il o ns, .int i, .int j] env Q = Q (il true (cut ns (some i) (some j)), env) := vsl_il rfl rfl
theorem vsl_ni (o : Bool) (ns : List Int) (j : Int) : opK .sl ln [il o ns, .non, .int j] env Q = Q (il true (cut ns none (some j)), env) := vsl_il rfl rfl
theorem vsl_in (o : Bool) (ns : List Int) (i : Int) : opK .sl ln [il o ns, .int i, .non] env Q = Q (il true (cut ns (some i) none), env) := vsl_il rfl rfl
theorem vsl_nn (o : Bool) (ns : List Int) : opK .sl ln [il o ns, .non, .non] env Q = Q (il true (cut ns none none), env) := vsl_il rfl rfl
theorem vadd_il (o o' : Bool) (ns ms : List Int) : opK .add ln [il o ns, il o' ms] env Q = (ns.length + ms.length ≤ line ∧ Q (il true (ns ++ ms), env)) := by
  rw [opK_eq (by show prim .add [frz (il o ns), frz (il o' ms)] = _; rw [frz_il, frz_il]; rfl)]
  show Ok (if (noOwnL (ns.map .int) && noOwnL (ms.map .int) && decide ((ns.map D.int).length + (ms.map D.int).length ≤ line)) = true then R.ok (D.lst true (ns.map .int ++ ms.map .int)) else .bad) _ = _
  rw [noOwnL_int, noOwnL_int, Bool.true_and, Bool.true_and, okg, decide_eq_true_eq, List.length_map, List.length_map, ← List.map_append]; rfl
theorem vmul_il (o : Bool) (ns : List Int) (k : Int) : opK .mul ln [il o ns, .int k] env Q = (((ns.length * k.toNat ≤ line ∧ -(2 ^ 63) ≤ k) ∧ k < 2 ^ 63) ∧ Q (il true (List.replicate k.toNat ns).flatten, env)) := by
  rw [opK_eq (by show prim .mul [frz (il o ns), .int k] = _; rw [frz_il]; rfl)]
  show Ok (if (noOwnL (ns.map .int) && decide ((ns.map D.int).length * k.toNat ≤ line) && decide (-(2 ^ 63) ≤ k) && decide (k < 2 ^ 63)) = true then R.ok (D.lst true (List.replicate k.toNat (ns.map .int)).flatten) else .bad) _ = _
  rw [noOwnL_int, Bool.true_and, okg, Bool.and_eq_true, Bool.and_eq_true, decide_eq_true_eq, decide_eq_true_eq, decide_eq_true_eq, List.length_map]
  have : (List.replicate k.toNat (ns.map D.int)).flatten = (List.replicate k.toNat ns).flatten.map .int := by
    rw [List.map_flatten, List.map_replicate]
  rw [this]; rfl
theorem vin_il (p : Int) (o : Bool) (ns : List Int) : opK .isin ln [.int p, il o ns] env Q = Q (.bl (ns.contains p), env) := by
  have e : ∀ o, prim .isin [.int p, il o ns] = .ok (.bl (ns.contains p)) := fun o => by show pIn false [.int p, .lst o (ns.map .int)] = _; rw [pIn_int]; rfl
  unfold opK opR; rw [e]; rfl
theorem vnin_il (p : Int) (o : Bool) (ns : List Int) : opK .notin ln [.int p, il o ns] env Q = Q (.bl (!ns.contains p), env) := by
  have e : ∀ o, prim .notin [.int p, il o ns] = .ok (.bl (!ns.contains p)) := fun o => by show pIn true [.int p, .lst o (ns.map .int)] = _; rw [pIn_int]; rfl
  unfold opK opR; rw [e]; rfl
theorem vlist_il (o : Bool) (ns : List Int) : opK .list ln [il o ns] env Q = Q (il true ns, env) := by
  have e : ∀ o, prim .list [il o ns] = .ok (il true ns) := fun o => by show (if noOwnL (ns.map .int) = true then R.ok (D.lst true (ns.map .int)) else .bad) = _; rw [noOwnL_int]; rfl
  unfold opK opR; rw [e]; rfl
theorem vrev_il (o : Bool) (ns : List Int) : opK .rev ln [il o ns] env Q = Q (il true ns.reverse, env) := by
  have e : ∀ o, prim .rev [il o ns] = .ok (il true ns.reverse) := fun o => by show (if noOwnL (ns.map .int) = true then R.ok (D.lst true (ns.map .int).reverse) else .bad) = _; rw [noOwnL_int, if_pos rfl, ← List.map_reverse]; rfl
  unfold opK opR; rw [e]; rfl
theorem pickL_map {α β : Type} (f : α → β) (xs : List α) (lo hi st : Option Int) : (pickL xs lo hi st).map f = pickL (xs.map f) lo hi st := by
  unfold pickL
  rw [List.map_filterMap, List.length_map]
  congr 1
  funext i
  rw [List.getElem?_map]
theorem vsls_il {o : Bool} {ns : List Int} {a b c : D} {lo hi st : Option Int} (ha : optI a = .ok lo) (hb : optI b = .ok hi) (hc : optI c = .ok st) : opK .sls ln [il o ns, a, b, c] env Q = (st ≠ some 0 ∧ Q (il true (pickL ns lo hi st), env)) := by
  have e : ∀ o, prim .sls [il o ns, a, b, c] = if decide (st ≠ some 0) = true then .ok (il true (pickL ns lo hi st)) else .bad := by
    intro o
    show (match optI a, optI b, optI c with | .ok lo, .ok hi, .ok st => if (decide (st ≠ some 0) && noOwnL (ns.map .int)) = true then R.ok (D.lst true (pickL (ns.map .int) lo hi st)) else .bad | _, _, _ => .bad) = _
    rw [ha, hb, hc]
    show (if (decide (st ≠ some 0) && noOwnL (ns.map .int)) = true then _ else _) = _
    rw [noOwnL_int, Bool.and_true, ← pickL_map]; rfl
  have fr : ∀ (d : D) (x : Option Int), optI d = .ok x → frz d = d := fun d x h => by
    unfold optI at h
    split at h
    · rfl
    · rfl
    · cases h
  rw [opK_eq (by show prim .sls [frz (il o ns), frz a, frz b, frz c] = _; rw [frz_il, fr _ _ ha, fr _ _ hb, fr _ _ hc, e, e]), e, okg, decide_eq_true_eq]
theorem vsls_iii (o : Bool) (ns : List Int) (i j k : Int) : opK .sls ln [il o ns, .int i, .int j, .int k] env Q = (k ≠ 0 ∧ Q (il true (pickL ns (some i) (some j) (some k)), env)) := by
  rw [vsls_il (lo := some i) (hi := some j) (st := some k) rfl rfl rfl]
  simp
theorem vsls_nni (o : Bool) (ns : List Int) (k : Int) : opK .sls ln [il o ns, .non, .non, .int k] env Q = (k ≠ 0 ∧ Q (il true (pickL ns none none (some k)), env)) := by
  rw [vsls_il (lo := none) (hi := none) (st := some k) rfl rfl rfl]
  simp
theorem vsorted_il (o : Bool) (ns : List Int) : opK .sorted ln [il o ns] env Q = Q (il true (sortI ns), env) := by
  have e : ∀ o, prim .sorted [il o ns] = .ok (il true (sortI ns)) := fun o => by simp [prim, pLI, il, intL_int]
  unfold opK opR; rw [e]; rfl
theorem vsum_il (o : Bool) (ns : List Int) : opK .sum ln [il o ns] env Q = Q (.int ns.sum, env) := by
  have e : ∀ o, prim .sum [il o ns] = .ok (.int ns.sum) := fun o => by simp [prim, pLI, il, intL_int]
  unfold opK opR; rw [e]; rfl
theorem vmax_il (o : Bool) (ns : List Int) : opK .max1 ln [il o ns] env Q = (ns ≠ [] ∧ Q (.int (maxI ns), env)) := by
  rw [opK_eq (by show prim .max1 [frz (il o ns)] = _; rw [frz_il]; rfl)]
  have e : prim .max1 [il o ns] = if ns.isEmpty then .bad else .ok (.int (maxI ns)) := by simp [prim, pLI, il, intL_int]
  rw [e]
  cases ns <;> simp [Ok]
theorem vmin_il (o : Bool) (ns : List Int) : opK .min1 ln [il o ns] env Q = (ns ≠ [] ∧ Q (.int (minI ns), env)) := by
  rw [opK_eq (by show prim .min1 [frz (il o ns)] = _; rw [frz_il]; rfl)]
  have e : prim .min1 [il o ns] = if ns.isEmpty then .bad else .ok (.int (minI ns)) := by simp [prim, pLI, il, intL_int]
  rw [e]
  cases ns <;> simp [Ok]
theorem vrepr (d : D) : opK .repr ln [d] env Q = if reprOk d = true then Q (.str (toPy d).shown, env) else opK .repr ln [d] env Q := by
  by_cases h : reprOk d = true
  · rw [if_pos h]; unfold opK opR; rw [repr_ok h]; rfl
  · rw [if_neg h]
theorem vrepr_ok {d : D} (h : reprOk d = true) : opK .repr ln [d] env Q = Q (.str (toPy d).shown, env) := by unfold opK opR; rw [repr_ok h]; rfl
/-- lists of ints, compared -/
theorem shapedI (o : Bool) (ns : List Int) : noDict (il o ns) = true ∧ SeqAt.shaped (toPy (il o ns)) = true := by
  have hd : ∀ l : List Int, noDictL (l.map .int) = true ∧ PyData.canLayAll0 (toPyL (l.map .int)) = true ∧ PyData.depthAll (toPyL (l.map .int)) = 0 := by
    intro l
    induction l with
    | nil => exact ⟨rfl, rfl, rfl⟩
    | cons n l ih =>
      obtain ⟨i1, i2, i3⟩ := ih
      refine ⟨i1, ?_, ?_⟩
      · show (PyData.canLay0 (.int n) && PyData.canLayAll0 _) = true
        rw [i2]; rfl
      · show max 0 (PyData.depthAll _) = 0
        rw [i3]; rfl
  obtain ⟨i1, i2, i3⟩ := hd ns
  refine ⟨i1, ?_⟩
  show (PyData.canLayAll0 (toPyL (ns.map .int)) && decide (PyData.depthAll (toPyL (ns.map .int)) + 1 ≤ 64)) = true
  rw [i2, i3]; rfl
theorem eqD_il (o o' : Bool) (ns ms : List Int) : eqD (il o ns) (il o' ms) = .ok (decide (ns = ms)) := by
  obtain ⟨h1, h2⟩ := shapedI o ns
  obtain ⟨h3, h4⟩ := shapedI o' ms
  unfold eqD
  rw [if_neg (by unfold il; simp [flat]), h1, h2, h3, h4]
  simp only [Bool.and_self, if_true]
  congr 1
  show PyData.eqv (.list (toPyL (ns.map .int))) (.list (toPyL (ms.map .int))) = _
  have : ∀ a b : List Int, PyData.eqvAll (toPyL (a.map .int)) (toPyL (b.map .int)) = decide (a = b) := by
    intro a
    induction a with
    | nil => intro b; cases b <;> rfl
    | cons x a ih =>
      intro b
      cases b with
      | nil => rfl
      | cons y b =>
        show (PyData.eqv (.int x) (.int y) && PyData.eqvAll _ _) = _
        rw [ih]
        have : PyData.eqv (.int x) (.int y) = decide (x = y) := by
          by_cases h : x = y <;> simp [PyData.eqv, h]
        rw [this]
        by_cases h1 : x = y <;> by_cases h2 : a = b <;> simp [h1, h2]
  exact this ns ms
theorem veq_il (o o' : Bool) (ns ms : List Int) : opK .eq ln [il o ns, il o' ms] env Q = Q (.bl (decide (ns = ms)), env) := by
  unfold opK opR
  simp only [prim, pEq, eqD_il]; rfl
theorem vne_il (o o' : Bool) (ns ms : List Int) : opK .ne ln [il o ns, il o' ms] env Q = Q (.bl (!decide (ns = ms)), env) := by
  unfold opK opR
  simp only [prim, pEq, eqD_il]; rfl
theorem il_nil : D.lst true [] = il true [] := id rfl
theorem il_one (a : Int) : D.lst true [.int a] = il true [a] := id rfl
theorem il_two (a b : Int) : D.lst true [.int a, .int b] = il true [a, b] := id rfl
theorem il_four (a b c d : Int) : D.lst true [.int a, .int b, .int c, .int d] = il true [a, b, c, d] := id rfl
theorem il_three (a b c : Int) : D.lst true [.int a, .int b, .int c] = il true [a, b, c] := id rfl
/-! what a loop walks -/
section
variable {K : List D → Prop}
theorem iseq (o : Bool) (xs : List D) : itK .seq [.lst o xs] K = K xs := id rfl
theorem iseqt (xs : List D) : itK .seq [.tup xs] K = K xs := id rfl
theorem iseq_il (o : Bool) (ns : List Int) : itK .seq [il o ns] K = K (ns.map .int) := id rfl
theorem ienum (o : Bool) (xs : List D) : itK .enum [.lst o xs] K = K (xs.zipIdx.map fun p => .tup [.int p.2, p.1]) := id rfl
theorem ienum_il (o : Bool) (ns : List Int) : itK .enum [il o ns] K = K (ns.zipIdx.map fun p => .tup [.int p.2, .int p.1]) := by
  show K ((ns.map D.int).zipIdx.map fun p => .tup [.int p.2, p.1]) = _
  rw [List.zipIdx_map, List.map_map]; rfl
theorem izip_il (o o' : Bool) (ns ms : List Int) : itK .zip [il o ns, il o' ms] K = K ((ns.zip ms).map fun p => .tup [.int p.1, .int p.2]) := by
  show K (List.zipWith (fun x y => .tup [x, y]) (ns.map .int) (ms.map .int)) = _
  rw [List.zip, List.map_zipWith, List.zipWith_map]
theorem rOkP (i : Int) : (rOk i = true) = (-(2 ^ 62) ≤ i ∧ i < 2 ^ 62) := by unfold rOk; rw [Bool.and_eq_true, decide_eq_true_eq, decide_eq_true_eq]
theorem irng1 (j : Int) : itK .rng1 [.int j] K = ((-(2 ^ 62) ≤ j ∧ j ≤ 16777216) ∧ K ((List.range j.toNat).map fun k => .int (k : Nat))) := by
  show Ok (if (rOk j && decide (j ≤ (line : Int))) = true then R.ok (rangeD 0 1 j.toNat) else .bad) K = _
  rw [ok_guard, Bool.and_eq_true, rOkP, decide_eq_true_eq]
  have hl : (line : Int) = 16777216 := id rfl
  rw [hl]
  have e : rangeD 0 1 j.toNat = (List.range j.toNat).map fun k => D.int (k : Nat) := by
    unfold rangeD
    refine List.map_congr_left fun k _ => ?_
    congr 1; omega
  rw [e]
  apply propext
  constructor
  · rintro ⟨⟨⟨a, b⟩, c⟩, h⟩; exact ⟨⟨a, c⟩, h⟩
  · rintro ⟨⟨a, c⟩, h⟩; exact ⟨⟨⟨a, by omega⟩, c⟩, h⟩
theorem irng2 (i j : Int) : itK .rng2 [.int i, .int j] K = ((((-(2 ^ 62) ≤ i ∧ i < 2 ^ 62) ∧ -(2 ^ 62) ≤ j ∧ j < 2 ^ 62) ∧ j - i ≤ 16777216) ∧ K ((List.range (j - i).toNat).map fun k => .int (i + (k : Nat)))) := by
  show Ok (if (rOk i && rOk j && decide (j - i ≤ (line : Int))) = true then R.ok (rangeD i 1 (j - i).toNat) else .bad) K = _
  rw [ok_guard, Bool.and_eq_true, Bool.and_eq_true, rOkP, rOkP, decide_eq_true_eq]
  have hl : (line : Int) = 16777216 := id rfl
  rw [hl]
  have e : rangeD i 1 (j - i).toNat = (List.range (j - i).toNat).map fun k => D.int (i + (k : Nat)) := by
    unfold rangeD
    refine List.map_congr_left fun k _ => ?_
    congr 1; omega
  rw [e]; rfl
theorem irng3 (i j c : Int) : itK .rng3 [.int i, .int j, .int c] K = (((((i.natAbs < 2 ^ 40 ∧ j.natAbs < 2 ^ 40) ∧ c ≠ 0) ∧ c.natAbs < 1000000000) ∧ rangeN i j c ≤ line) ∧ K ((List.range (rangeN i j c)).map fun k => .int (i + (k : Nat) * c))) := by
  show Ok (if (decide (i.natAbs < 2 ^ 40) && decide (j.natAbs < 2 ^ 40) && decide (c ≠ 0) && decide (c.natAbs < 1000000000) && decide (rangeN i j c ≤ line)) = true then R.ok (rangeD i c (rangeN i j c)) else .bad) K = _
  rw [ok_guard, Bool.and_eq_true, Bool.and_eq_true, Bool.and_eq_true, Bool.and_eq_true]
  simp only [decide_eq_true_eq]; rfl
end
theorem lrngK {ds : List D} {b : Bool} {a hi c : Int} {n : Nat} (h : rgData ds = if b = true then some (a, hi, c, n) else none) (K : D → Prop) : Ok (prim .lrng ds) K = (b = true ∧ K (.lst true (rangeD a c n))) := by
  show Ok (pLrng ds) K = _
  unfold pLrng
  rw [h]
  cases b <;> simp [Ok]
theorem rangeD_il (a c : Int) (n : Nat) : D.lst true (rangeD a c n) = il true ((List.range n).map fun (k : Nat) => a + (k : Int) * c) := by
  unfold il rangeD
  rw [List.map_map]; rfl
theorem vlrng2 (i j : Int) : opK .lrng ln [.int i, .int j] env Q = ((((-(2 ^ 62) ≤ i ∧ i < 2 ^ 62) ∧ -(2 ^ 62) ≤ j ∧ j < 2 ^ 62) ∧ j - i ≤ 16777216) ∧ Q (il true ((List.range (j - i).toNat).map fun (k : Nat) => i + (k : Int)), env)) := by
  rw [opK_eq rfl, lrngK (b := rOk i && rOk j && decide (j - i ≤ (line : Int))) (a := i) (hi := j) (c := 1) (n := (j - i).toNat) rfl, Bool.and_eq_true, Bool.and_eq_true, rOkP, rOkP, decide_eq_true_eq, rangeD_il]
  have hl : (line : Int) = 16777216 := id rfl
  rw [hl]
  have e : ((List.range (j - i).toNat).map fun (k : Nat) => i + (k : Int) * 1) = (List.range (j - i).toNat).map fun (k : Nat) => i + (k : Int) := List.map_congr_left fun k _ => by omega
  rw [e]
theorem vlrng1 (j : Int) : opK .lrng ln [.int j] env Q = ((-(2 ^ 62) ≤ j ∧ j ≤ 16777216) ∧ Q (il true ((List.range j.toNat).map fun (k : Nat) => (k : Int)), env)) := by
  rw [opK_eq rfl, lrngK (b := rOk j && decide (j ≤ (line : Int))) (a := 0) (hi := j) (c := 1) (n := j.toNat) rfl, Bool.and_eq_true, rOkP, decide_eq_true_eq, rangeD_il]
  have hl : (line : Int) = 16777216 := id rfl
  rw [hl]
  have e : ((List.range j.toNat).map fun (k : Nat) => 0 + (k : Int) * 1) = (List.range j.toNat).map fun (k : Nat) => (k : Int) := List.map_congr_left fun k _ => by omega
  rw [e]
  apply propext
  constructor
  · rintro ⟨⟨⟨a, b⟩, c⟩, h⟩; exact ⟨⟨a, c⟩, h⟩
  · rintro ⟨⟨a, c⟩, h⟩; exact ⟨⟨⟨a, by omega⟩, c⟩, h⟩
theorem vlrng3 (i j c : Int) : opK .lrng ln [.int i, .int j, .int c] env Q = (((((i.natAbs < 2 ^ 40 ∧ j.natAbs < 2 ^ 40) ∧ c ≠ 0) ∧ c.natAbs < 1000000000) ∧ rangeN i j c ≤ line) ∧ Q (il true ((List.range (rangeN i j c)).map fun (k : Nat) => i + (k : Int) * c), env)) := by
  rw [opK_eq rfl, lrngK (b := decide (i.natAbs < 2 ^ 40) && decide (j.natAbs < 2 ^ 40) && decide (c ≠ 0) && decide (c.natAbs < 1000000000) && decide (rangeN i j c ≤ line)) (a := i) (hi := j) (c := c) (n := rangeN i j c) rfl, rangeD_il, Bool.and_eq_true, Bool.and_eq_true, Bool.and_eq_true, Bool.and_eq_true]
  simp only [decide_eq_true_eq]
/-! changes in place -/
theorem vapp (y : D) (xs : List D) (K : D → Prop) : Ok (R.ofO (appP y (.lst true xs) [])) K = (xs.length < line ∧ K (.lst true (xs ++ [y]))) := by
  show Ok (R.ofO (if xs.length < line then some (D.lst true (xs ++ [y])) else none)) K = _
  by_cases h : xs.length < line
  · rw [if_pos h]; simp [R.ofO, Ok, h]
  · rw [if_neg h]; simp [R.ofO, Ok, h]
theorem vapp_il (v : Int) (ns : List Int) (K : D → Prop) : Ok (R.ofO (appP (.int v) (il true ns) [])) K = (ns.length < line ∧ K (il true (ns ++ [v]))) := by
  rw [il, vapp, List.length_map]
  unfold il
  rw [List.map_append]; rfl
theorem vset_il (ns : List Int) (k v : Int) (K : D → Prop) : Ok (R.ofO (setIx (il true ns) (.int k) (.int v))) K = (ixOk ns.length k ∧ K (il true (ns.set (if 0 ≤ k then k else k + ns.length).toNat v))) := by
  show Ok (R.ofO ((ixN (ns.map D.int).length k).map fun j => .lst true ((ns.map D.int).set j (.int v)))) K = _
  rw [List.length_map, ixN_eq]
  by_cases h : -(ns.length : Int) ≤ k ∧ k < ns.length
  · rw [if_pos h]
    show K _ = _
    unfold il
    rw [List.map_set]
    simp [ixOk, h]
  · rw [if_neg h]; simp [R.ofO, Ok, ixOk, h]
theorem eraseIdx_int : ∀ (l : List Int) (j : Nat), (l.map D.int).eraseIdx j = (l.eraseIdx j).map D.int
  | [], _ => rfl
  | _ :: _, 0 => rfl
  | x :: l, j + 1 => by
    show D.int x :: (l.map D.int).eraseIdx j = D.int x :: (l.eraseIdx j).map D.int
    rw [eraseIdx_int l j]
theorem vpop_il (ns : List Int) (k : Int) (hl : ns.length ≤ 2 ^ 62) (K : D × D → Prop) : Ok (R.ofO (popAt (il true ns) [.int k])) K = (ixOk ns.length k ∧ K (.int (ixI ns k), il true (ns.eraseIdx (if 0 ≤ k then k else k + ns.length).toNat))) := by
  show Ok (R.ofO (if (decide (-(2 ^ 63) ≤ k) && decide (k < 2 ^ 63)) = true then (ixN (ns.map D.int).length k).bind fun j => (ns.map D.int)[j]?.map fun d => (d, .lst true ((ns.map D.int).eraseIdx j)) else none)) K = _
  rw [List.length_map, ixN_eq]
  by_cases h : -(ns.length : Int) ≤ k ∧ k < ns.length
  · rw [if_pos (by rw [decide_eq_true (by omega), decide_eq_true (by omega)]; rfl), if_pos h]
    have hl : (if 0 ≤ k then k else k + ns.length).toNat < ns.length := by split <;> omega
    have hi : ixI ns k = ns[(if 0 ≤ k then k else k + ns.length).toNat] := by
      unfold ixI; rw [List.getD_eq_getElem?_getD, List.getElem?_eq_getElem hl]; rfl
    rw [Option.bind_some, List.getElem?_map, List.getElem?_eq_getElem hl, Option.map_some, Option.map_some, eraseIdx_int, hi]
    show K _ = _
    simp [ixOk, h, il]
  · rw [if_neg h]
    simp [R.ofO, Ok, ixOk, h]
theorem isList_il (o : Bool) (ns : List Int) : isListD (il o ns) = true := id rfl
theorem isList_lst (o : Bool) (ns : List D) : isListD (.lst o ns) = true := id rfl
end
end KS
set_option Elab.async false
set_option linter.all false
set_option maxRecDepth 100000
namespace KS
open PySem L2
def atP1 (ns : List Int) (p : Int) : Int := ns.getD (p - 1).toNat 0
def putL (t : List Int) (p v : Int) : List Int := t.set (p - 1).toNat v
def putAll (t : List Int) (ps vs : List Int) : List Int := (ps.zip vs).foldl (fun t pv => putL t pv.1 pv.2) t
def sortC (ns t : List Int) (ch : List Int) : List Int := putAll t ch (sortI (ch.map (atP1 ns)))
def sortIn (ns : List Int) (fam : List (List Int)) : List Int := fam.foldl (sortC ns) ns
def inR (m : Nat) (ch : List Int) : Prop := ∀ p, p ∈ ch → 1 ≤ p ∧ p ≤ (m : Int)
def fl (o : Bool) (fam : List (List Int)) : D := .lst o (fam.map (il o))
theorem getIx_il {ns : List Int} {p : Int} (h : 1 ≤ p ∧ p ≤ (ns.length : Int)) : getIx (ns.map .int) (p - 1) = .ok (.int (atP1 ns p)) := by
  unfold getIx atI ixN
  have h0 : 0 ≤ p - 1 := by omega
  have h1 : p - 1 < (ns.length : Int) := by omega
  have h2 : (p - 1).toNat < ns.length := by omega
  simp only [List.length_map, h0, h1, if_true, Option.bind_some, List.getElem?_map, List.getElem?_eq_getElem h2, Option.map_some, atP1, List.getD_eq_getElem?_getD, Option.getD_some, noOwn]
theorem len_sortI (ns : List Int) : (sortI ns).length = ns.length := by
  induction ns with
  | nil => rfl
  | cons x xs ih =>
    have ins : ∀ (y : Int) (ys : List Int), (insI y ys).length = ys.length + 1 := by
      intro y ys
      induction ys with
      | nil => rfl
      | cons z zs ih => unfold insI; split <;> simp [ih]
    unfold sortI
    rw [ins, ih]; rfl
theorem len_putAll : ∀ (ps vs t : List Int), (putAll t ps vs).length = t.length
  | [], _, _ => by simp [putAll]
  | _ :: _, [], _ => by simp [putAll]
  | p :: ps, v :: vs, t => by
    have := len_putAll ps vs (putL t p v)
    unfold putAll at this ⊢
    simpa [putL] using this
theorem seti_il {t : List Int} {p v : Int} (h : 1 ≤ p ∧ p ≤ (t.length : Int)) : ixN t.length (p - 1) = some (p - 1).toNat ∧ (t.map D.int).set (p - 1).toNat (.int v) = (putL t p v).map .int := by
  refine ⟨?_, by unfold putL; rw [List.map_set]⟩
  unfold ixN
  rw [if_pos (by omega), if_pos (by omega)]
def pair (pv : Int × Int) : D := .tup [.int pv.1, .int pv.2]
theorem zip_pair (ps vs : List Int) : List.zipWith (fun x y => D.tup [x, y]) (ps.map .int) (vs.map .int) = (ps.zip vs).map pair := by
  induction ps generalizing vs with
  | nil => rfl
  | cons p ps ih =>
    cases vs with
    | nil => rfl
    | cons v vs => simp only [List.map_cons, List.zipWith_cons_cons, List.zip_cons_cons, ih]; rfl
theorem zip_fst {ps vs : List Int} {pv : Int × Int} (h : pv ∈ ps.zip vs) : pv.1 ∈ ps := (List.of_mem_zip (show (pv.1, pv.2) ∈ ps.zip vs from h)).1
theorem len_sortIn (ns : List Int) (fam : List (List Int)) : (sortIn ns fam).length = ns.length := by
  unfold sortIn
  have : ∀ (l : List (List Int)) (t : List Int), t.length = ns.length → (l.foldl (sortC ns) t).length = ns.length := by
    intro l
    induction l with
    | nil => intro t h; exact h
    | cons c l ih => intro t h; exact ih _ (by unfold sortC; rw [len_putAll]; exact h)
  exact this fam ns rfl
def okF (m : Nat) (fam : List (List Int)) : Prop := ∀ ch, ch ∈ fam → inR m ch ∧ ch.length ≤ line
@[simp] theorem frz_fl (o : Bool) (fam : List (List Int)) : frz (fl o fam) = fl false fam := by
  have : ∀ l : List (List Int), frzL (l.map (il o)) = l.map (il false) := by
    intro l
    induction l with
    | nil => rfl
    | cons c l ih => simp [frzL, ih]
  simp [fl, frz, this]
theorem noOwn_fl (fam : List (List Int)) : noOwn (fl false fam) = true := by
  have : ∀ l : List (List Int), noOwnL (l.map (il false)) = true := by
    intro l
    induction l with
    | nil => rfl
    | cons c l ih => simp [noOwnL, ih, il, noOwn, noOwnL_int]
  simp [fl, noOwn, this]
theorem sorted_il (o : Bool) (ns : List Int) : prim .sorted [il o ns] = .ok (il true (sortI ns)) := by
  simp [prim, pLI, il, intL_int]
def okC (m : Nat) (ch seen : List Int) : Prop := inR m ch ∧ ch.Nodup ∧ ∀ p, p ∈ ch → p ∉ seen
theorem zipIdx_mem {ch : List Int} {p : Int} {k : Nat} (h : (p, k) ∈ ch.zipIdx) : ch[k]? = some p := by
  simpa using List.mk_mem_zipIdx_iff_getElem?.mp h
theorem not_before {ch : List Int} {p : Int} {k : Nat} (hn : ch.Nodup) (h : ch[k]? = some p) : (ch.take k).contains p = false := by
  obtain ⟨hk, e⟩ := List.getElem?_eq_some_iff.mp h
  rw [List.contains_eq_mem, decide_eq_false_iff_not]
  intro hm
  obtain ⟨j, hj, e2⟩ := List.getElem_of_mem hm
  rw [List.getElem_take] at e2
  have hj2 : j < k := by have := hj; rw [List.length_take] at this; omega
  exact List.pairwise_iff_getElem.mp hn j k (by omega) hk hj2 (e2.trans e.symm)
def okFam (m : Nat) (fam : List (List Int)) : Prop := (∀ p, p ∈ fam.flatten → 1 ≤ p ∧ p ≤ (m : Int)) ∧ fam.flatten.Nodup ∧ fam.flatten.length ≤ line
def rl (o : Bool) (row : List (List (List Int))) : D := .lst o (row.map (fl false))
@[simp] theorem frz_rl (o : Bool) (row : List (List (List Int))) : frz (rl o row) = rl false row := by
  have : ∀ l : List (List (List Int)), frzL (l.map (fl false)) = l.map (fl false) := by
    intro l
    induction l with
    | nil => rfl
    | cons c l ih => simp [frzL, ih]
  simp [rl, frz, this]
def nbrs (fam : List (List Int)) : List (Int × Int) := fam.flatMap fun ch => ch.zip (ch.drop 1)
def isS (ns : List Int) (fam : List (List Int)) : Bool := (nbrs fam).all fun pq => decide (atP1 ns pq.1 ≤ atP1 ns pq.2)
theorem sl1 (o : Bool) (ch : List Int) : prim .sl [il o ch, .int 1, .non] = .ok (.lst true ((ch.drop 1).map .int)) := by
  rw [show prim .sl [il o ch, .int 1, .non] = pSl [il o ch, .int 1, .non] from rfl]
  simp only [pSl, il, optI, noOwnL_int, if_true]
  cases ch with
  | nil => rfl
  | cons c ch =>
    have := cut_from ((c :: ch).map D.int) 1 (by simp)
    rw [List.map_drop]
    exact congrArg (fun l => R.ok (D.lst true l)) this
theorem all_bl (l : List Bool) : prim .all [.lst true (l.map .bl)] = .ok (.bl (l.all id)) := by
  have : boolL (l.map .bl) = some l := by
    induction l with
    | nil => rfl
    | cons b l ih => simp [boolL, ih]
  simp [prim, pLB, this]
theorem nbrs_in {fam : List (List Int)} {pq : Int × Int} (h : pq ∈ nbrs fam) : pq.1 ∈ fam.flatten ∧ pq.2 ∈ fam.flatten := by
  obtain ⟨ch, hc, hp⟩ := List.mem_flatMap.mp h
  have hz := List.of_mem_zip (show (pq.1, pq.2) ∈ ch.zip (ch.drop 1) from hp)
  exact ⟨List.mem_flatten.mpr ⟨ch, hc, hz.1⟩, List.mem_flatten.mpr ⟨ch, hc, List.mem_of_mem_drop hz.2⟩⟩
theorem nbrs_len (fam : List (List Int)) : (nbrs fam).length ≤ fam.flatten.length := by
  unfold nbrs
  induction fam with
  | nil => exact Nat.le_refl _
  | cons c l ih =>
    rw [List.flatMap_cons, List.flatten_cons, List.length_append, List.length_append, List.length_zip]
    exact Nat.add_le_add (Nat.min_le_left _ _) ih
theorem fresh_pairs (l : List (Int × Int)) : isFresh (.lst true (l.map pair)) = true := by
  have : isFreshL (l.map pair) = true := by
    induction l with
    | nil => rfl
    | cons p l ih => simp [isFreshL, pair, isFresh, ih]
  simp [isFresh, this]
theorem okF_of {m : Nat} {fam : List (List Int)} (h : okFam m fam) : okF m fam := fun ch hc => ⟨fun p hp => h.1 p (List.mem_flatten.mpr ⟨ch, hc, hp⟩), by
  refine Nat.le_trans ?_ h.2.2
  have : ∀ l : List (List Int), ch ∈ l → ch.length ≤ l.flatten.length := by
    intro l
    induction l with
    | nil => intro z; cases z
    | cons c l ih =>
      intro z
      rw [List.flatten_cons, List.length_append]
      rcases List.mem_cons.mp z with rfl | z
      · omega
      · have := ih z; omega
  exact this fam hc⟩
def afterR (ns : List Int) (row : List (List (List Int))) : List Int := row.foldl sortIn ns
theorem isS_any (ns : List Int) (fam : List (List Int)) : isS ns fam = !(fam.any fun ch => (ch.zip (ch.drop 1)).any fun pq => !decide (atP1 ns pq.1 ≤ atP1 ns pq.2)) := by
  unfold isS nbrs
  induction fam with
  | nil => rfl
  | cons c l ih =>
    rw [List.flatMap_cons, List.all_append, ih, List.any_cons, Bool.not_or]
    congr 1
    induction c.zip (c.drop 1) with
    | nil => rfl
    | cons p l ih => simp only [List.all_cons, List.any_cons, ih, Bool.not_or, Bool.not_not]
theorem at_put {t : List Int} {p v q : Int} (hp : 1 ≤ p ∧ p ≤ (t.length : Int)) (hq : 1 ≤ q) : atP1 (putL t p v) q = if q = p then v else atP1 t q := by
  unfold atP1 putL
  rw [List.getD_eq_getElem?_getD, List.getD_eq_getElem?_getD, List.getElem?_set]
  by_cases h : q = p
  · subst h
    have : (q - 1).toNat < t.length := by omega
    rw [if_pos rfl, if_pos this, if_pos rfl]; rfl
  · have : (p - 1).toNat ≠ (q - 1).toNat := by omega
    rw [if_neg this, if_neg h]
theorem put_out : ∀ {ch vs t : List Int} {q : Int}, inR t.length ch → 1 ≤ q → q ∉ ch → atP1 (putAll t ch vs) q = atP1 t q
  | [], _, _, _, _, _, _ => by simp [putAll]
  | _ :: _, [], _, _, _, _, _ => by simp [putAll]
  | p :: ch, v :: vs, t, q, hr, hq, hn => by
    have hp := hr p List.mem_cons_self
    have hl : (putL t p v).length = t.length := by unfold putL; simp
    have e : putAll t (p :: ch) (v :: vs) = putAll (putL t p v) ch vs := rfl
    rw [e, put_out (by rw [hl]; exact fun x hx => hr x (List.mem_cons_of_mem _ hx)) hq fun z => hn (List.mem_cons_of_mem _ z), at_put hp hq, if_neg fun z => hn (by rw [z]; exact List.mem_cons_self)]
theorem put_in : ∀ {ch vs t : List Int} {k : Nat} {p v : Int}, inR t.length ch → ch.Nodup → ch[k]? = some p → vs[k]? = some v → atP1 (putAll t ch vs) p = v
  | [], _, _, _, _, _, _, _, h, _ => by simp at h
  | _ :: _, [], _, _, _, _, _, _, _, h => by simp at h
  | a :: ch, b :: vs, t, k, p, v, hr, hn, h1, h2 => by
    have ha := hr a List.mem_cons_self
    have hl : (putL t a b).length = t.length := by unfold putL; simp
    have e : putAll t (a :: ch) (b :: vs) = putAll (putL t a b) ch vs := rfl
    have hr2 : inR (putL t a b).length ch := by rw [hl]; exact fun x hx => hr x (List.mem_cons_of_mem _ hx)
    obtain ⟨n1, n2⟩ := List.nodup_cons.mp hn
    rw [e]
    cases k with
    | zero =>
      simp at h1 h2
      subst h1; subst h2
      rw [put_out hr2 ha.1 n1, at_put ha ha.1, if_pos rfl]
    | succ k => exact put_in hr2 n2 (by simpa using h1) (by simpa using h2)
theorem fold_in (ns : List Int) : ∀ {fam : List (List Int)} {t : List Int}, (∀ p, p ∈ fam.flatten → 1 ≤ p ∧ p ≤ (t.length : Int)) → fam.flatten.Nodup →
    (∀ q, 1 ≤ q → q ∉ fam.flatten → atP1 (fam.foldl (sortC ns) t) q = atP1 t q) ∧ ∀ ch, ch ∈ fam → ∀ (k : Nat) (p v : Int), ch[k]? = some p → (sortI (ch.map (atP1 ns)))[k]? = some v → atP1 (fam.foldl (sortC ns) t) p = v
  | [], t, _, _ => ⟨fun _ _ _ => rfl, fun _ h => by cases h⟩
  | c :: fam, t, hr, hn => by
    rw [List.flatten_cons] at hr hn
    obtain ⟨n1, n2, n3⟩ := List.nodup_append.mp hn
    have hl : (sortC ns t c).length = t.length := by unfold sortC; rw [len_putAll]
    have hrc : inR t.length c := fun p hp => hr p (List.mem_append_left _ hp)
    obtain ⟨i1, i2⟩ := fold_in ns (fam := fam) (t := sortC ns t c) (fun p hp => by rw [hl]; exact hr p (List.mem_append_right _ hp)) n2
    refine ⟨fun q hq hnq => ?_, fun ch hch k p v h1 h2 => ?_⟩
    · rw [List.flatten_cons] at hnq
      show atP1 (fam.foldl (sortC ns) (sortC ns t c)) q = _
      rw [i1 q hq fun z => hnq (List.mem_append_right _ z)]
      exact put_out hrc hq fun z => hnq (List.mem_append_left _ z)
    · show atP1 (fam.foldl (sortC ns) (sortC ns t c)) p = _
      rcases List.mem_cons.mp hch with rfl | hch
      · have hp := List.mem_of_getElem? h1
        rw [i1 p (hrc p hp).1 fun z => n3 p hp p z rfl]
        exact put_in hrc n1 h1 h2
      · exact i2 ch hch k p v h1 h2
theorem isS_sortIn (ns : List Int) (fam : List (List Int)) (h : okFam ns.length fam) : isS (sortIn ns fam) fam = true := by
  obtain ⟨_, key⟩ := fold_in ns (t := ns) h.1 h.2.1
  unfold isS
  rw [List.all_eq_true]
  intro pq hpq
  obtain ⟨ch, hc, hz⟩ := List.mem_flatMap.mp hpq
  obtain ⟨k, hk, e⟩ := List.getElem_of_mem hz
  rw [List.getElem_zip] at e
  rw [List.length_zip, List.length_drop] at hk
  have k1 : k < ch.length := by omega
  have k2 : k + 1 < ch.length := by omega
  have e1 : ch[k]? = some pq.1 := by rw [List.getElem?_eq_getElem k1, ← e]
  have e2 : ch[k + 1]? = some pq.2 := by
    rw [List.getElem?_eq_getElem k2, ← e]
    simp [Nat.add_comm]
  have hs : (sortI (ch.map (atP1 ns))).length = ch.length := by rw [len_sortI, List.length_map]
  have v1 := List.getElem?_eq_getElem (l := sortI (ch.map (atP1 ns))) (i := k) (by omega)
  have v2 := List.getElem?_eq_getElem (l := sortI (ch.map (atP1 ns))) (i := k + 1) (by omega)
  have a1 := key ch hc k _ _ e1 v1
  have a2 := key ch hc (k + 1) _ _ e2 v2
  show decide (atP1 (sortIn ns fam) pq.1 ≤ atP1 (sortIn ns fam) pq.2) = true
  rw [decide_eq_true_eq]
  show atP1 (fam.foldl (sortC ns) ns) pq.1 ≤ atP1 (fam.foldl (sortC ns) ns) pq.2
  rw [a1, a2]
  exact List.pairwise_iff_getElem.mp (sortI_sorted _) k (k + 1) (by omega) (by omega) (by omega)
def bnd (ns : List Int) : Prop := ∀ v, v ∈ ns → v.natAbs.log2 < 1920
theorem shwL_int {ns : List Int} (h : bnd ns) (k : Nat) : shwL (ns.map .int) k = true := by
  induction ns with
  | nil => rfl
  | cons n ns ih =>
    show (shw (.int n) k && shwL (ns.map .int) k) = true
    rw [ih fun v hv => h v (List.mem_cons_of_mem _ hv)]
    show (decide (n.natAbs.log2 < 1920) && true) = true
    rw [decide_eq_true (h n List.mem_cons_self)]; rfl
theorem nodesL_int (ns : List Int) : nodesL (ns.map .int) = ns.length := by
  induction ns with
  | nil => rfl
  | cons n ns ih => show 1 + nodesL (ns.map .int) = _; rw [ih, List.length_cons]; omega
theorem shw_il {ns : List Int} (o : Bool) (h : bnd ns) (k : Nat) : shw (il o ns) (k + 1) = true := shwL_int h k
theorem nodes_il (o : Bool) (ns : List Int) : nodes (il o ns) = ns.length + 1 := by show nodesL (ns.map .int) + 1 = _; rw [nodesL_int]
theorem shw_fl {fam : List (List Int)} (o : Bool) (h : ∀ ch, ch ∈ fam → bnd ch) (k : Nat) : shw (fl o fam) (k + 2) = true := by
  show shwL (fam.map (il o)) (k + 1) = true
  induction fam with
  | nil => rfl
  | cons c l ih =>
    show (shw (il o c) (k + 1) && shwL (l.map (il o)) (k + 1)) = true
    rw [shw_il o (h c List.mem_cons_self), ih fun ch hc => h ch (List.mem_cons_of_mem _ hc)]; rfl
theorem nodes_fl (o : Bool) (fam : List (List Int)) : nodes (fl o fam) = fam.flatten.length + fam.length + 1 := by
  show nodesL (fam.map (il o)) + 1 = _
  have : nodesL (fam.map (il o)) = fam.flatten.length + fam.length := by
    induction fam with
    | nil => rfl
    | cons c l ih =>
      show nodes (il o c) + nodesL (l.map (il o)) = _
      rw [ih, nodes_il, List.flatten_cons, List.length_append, List.length_cons]; omega
  omega
theorem bnd_le {ch : List Int} (h : inR 40 ch) : bnd ch := fun v hv => by
  have := h v hv
  exact Nat.lt_of_le_of_lt (Nat.log2_le_self _) (by omega)
theorem mem_putAll {v : Int} : ∀ {ch vs t : List Int}, v ∈ putAll t ch vs → v ∈ t ∨ v ∈ vs
  | [], _, t, h => .inl (by simpa [putAll] using h)
  | _ :: _, [], t, h => .inl (by simpa [putAll] using h)
  | p :: ch, w :: vs, t, h => by
    have h : v ∈ putAll (putL t p w) ch vs := h
    rcases mem_putAll h with h | h
    · unfold putL at h
      rcases List.mem_or_eq_of_mem_set h with h | h
      · exact .inl h
      · exact .inr (by rw [h]; exact List.mem_cons_self)
    · exact .inr (List.mem_cons_of_mem _ h)
theorem atP1_mem {ns : List Int} {p : Int} (h : 1 ≤ p ∧ p ≤ (ns.length : Int)) : atP1 ns p ∈ ns := by
  unfold atP1
  have hk : (p - 1).toNat < ns.length := by omega
  rw [List.getD_eq_getElem?_getD, List.getElem?_eq_getElem hk]
  exact List.getElem_mem hk
theorem bnd_sortIn {ns : List Int} {fam : List (List Int)} (h : okF ns.length fam) (hb : bnd ns) : bnd (sortIn ns fam) := by
  unfold sortIn
  have : ∀ (l : List (List Int)) (t : List Int), (∀ ch, ch ∈ l → inR ns.length ch) → bnd t → bnd (l.foldl (sortC ns) t) := by
    intro l
    induction l with
    | nil => intro t _ h; exact h
    | cons c l ih =>
      intro t hr ht
      refine ih _ (fun ch hc => hr ch (List.mem_cons_of_mem _ hc)) fun v hv => ?_
      rcases mem_putAll hv with hv | hv
      · exact ht v hv
      · have := (sortI_perm _).mem_iff.mp hv
        obtain ⟨p, hp, rfl⟩ := List.mem_map.mp this
        exact hb _ (atP1_mem (hr c List.mem_cons_self p hp))
  exact this fam ns (fun ch hc => (h ch hc).1) hb
def tx2 (a b : D) : Str := (toPy (.lst true [a, b])).shown
theorem rp2 {a b : D} (ha : shw a 15 = true) (hb : shw b 15 = true) (hn : nodes a + nodes b ≤ 7000) : prim .repr [.lst true [a, b]] = .ok (.str (tx2 a b)) := by
  refine repr_ok ?_
  unfold reprOk
  have h1 : shw (.lst true [a, b]) 16 = true := by
    show (shw a 15 && (shw b 15 && true)) = true
    rw [ha, hb]; rfl
  have h2 : nodes (.lst true [a, b]) ≤ 8000 := by
    show nodes a + (nodes b + 0) + 1 ≤ 8000
    omega
  rw [h1, decide_eq_true h2]; rfl
theorem ne_str (x : Str) : prim .ne [.str x, .str x] = .ok (.bl false) := by
  simp [prim, pEq, eqD, flat, eqF]
theorem eq_str (x : Str) : prim .eq [.str x, .str x] = .ok (.bl true) := by
  simp [prim, pEq, eqD, flat, eqF]
structure Fit (ns : List Int) (fam : List (List Int)) : Prop where
  fm : okFam ns.length fam
  lo : 1 ≤ ns.length
  hi : ns.length ≤ 40
  bd : bnd ns
  few : fam.length ≤ 3000
theorem nodup_le : ∀ (m : Nat) (l : List Int), l.Nodup → (∀ p, p ∈ l → 1 ≤ p ∧ p ≤ (m : Int)) → l.length ≤ m
  | 0, l, _, h => by
    cases l with
    | nil => exact Nat.le_refl _
    | cons p l => have := h p List.mem_cons_self; omega
  | m + 1, l, hn, h => by
    have h1 : (l.erase (m + 1 : Nat)).length ≤ m := nodup_le m _ (hn.erase _) fun p hp => by
      have h2 := (hn.mem_erase_iff).mp hp
      have := h p h2.2
      have : p ≠ ((m + 1 : Nat) : Int) := h2.1
      omega
    rw [List.length_erase] at h1
    split at h1 <;> omega
theorem fit_len {ns : List Int} {fam : List (List Int)} (f : Fit ns fam) : fam.flatten.length ≤ 40 := Nat.le_trans (nodup_le ns.length _ f.fm.2.1 f.fm.1) f.hi
theorem fit_bnd {ns : List Int} {fam : List (List Int)} (f : Fit ns fam) : ∀ ch, ch ∈ fam → bnd ch := fun ch hc => bnd_le fun p hp => by
  have := f.fm.1 p (List.mem_flatten.mpr ⟨ch, hc, hp⟩)
  have := f.hi
  omega
theorem shw_rl {row : List (List (List Int))} (o : Bool) (h : ∀ fam, fam ∈ row → ∀ ch, ch ∈ fam → bnd ch) (k : Nat) : shw (rl o row) (k + 3) = true := by
  show shwL (row.map (fl false)) (k + 2) = true
  induction row with
  | nil => rfl
  | cons c l ih =>
    show (shw (fl false c) (k + 2) && shwL (l.map (fl false)) (k + 2)) = true
    rw [shw_fl false (h c List.mem_cons_self), ih fun ch hc => h ch (List.mem_cons_of_mem _ hc)]; rfl
theorem nodes_rl (o : Bool) {row : List (List (List Int))} {m : Nat} (h : ∀ fam, fam ∈ row → fam.flatten.length + fam.length ≤ m) : nodes (rl o row) ≤ row.length * (m + 1) + 1 := by
  show nodesL (row.map (fl false)) + 1 ≤ _
  have : nodesL (row.map (fl false)) ≤ row.length * (m + 1) := by
    induction row with
    | nil => exact Nat.zero_le _
    | cons c l ih =>
      show nodes (fl false c) + nodesL (l.map (fl false)) ≤ _
      have h1 := h c List.mem_cons_self
      have h2 := ih fun fam hf => h fam (List.mem_cons_of_mem _ hf)
      rw [nodes_fl, List.length_cons, Nat.succ_mul]
      omega
  omega
structure FitR (ns : List Int) (row : List (List (List Int))) : Prop where
  fm : ∀ fam, fam ∈ row → okFam ns.length fam
  lo : 1 ≤ ns.length
  hi : ns.length ≤ 40
  bd : bnd ns
  few : ∀ fam, fam ∈ row → fam.length ≤ 900
  five : row.length ≤ 5
theorem len_afterR (ns : List Int) (row : List (List (List Int))) : (afterR ns row).length = ns.length := by
  unfold afterR
  induction row generalizing ns with
  | nil => rfl
  | cons c l ih => rw [List.foldl_cons, ih, len_sortIn]
theorem bnd_afterR : ∀ {row : List (List (List Int))} {ns : List Int}, (∀ fam, fam ∈ row → okFam ns.length fam) → bnd ns → bnd (afterR ns row)
  | [], _, _, h => h
  | c :: l, ns, hr, h => by
    have := bnd_afterR (row := l) (ns := sortIn ns c) (fun fam hf => by rw [len_sortIn]; exact hr fam (List.mem_cons_of_mem _ hf)) (bnd_sortIn (okF_of (hr c List.mem_cons_self)) h)
    exact this
def dst (a k : Int) (b : Bool) : D := .lst true [.int a, .int k, .bl b]
def Dw (m : Nat) (st : D) : Prop := ∃ a k b, st = dst a k b ∧ 0 ≤ k ∧ k + (m : Int) ≤ 2 ^ 60
theorem Dw.mono {m m' : Nat} {st : D} (h : Dw m st) (hm : m' ≤ m) : Dw m' st := by
  obtain ⟨a, k, b, e, h0, h1⟩ := h
  exact ⟨a, k, b, e, h0, by omega⟩
theorem mul_ok {a b : Int} (h : a.natAbs < 2 ^ 63 ∨ b.natAbs < 2 ^ 63) : prim .mul [.int a, .int b] = .ok (.int (a * b)) := by
  have : (decide (a.natAbs < 2 ^ 63) || decide (b.natAbs < 2 ^ 63)) = true := by simpa using h
  simp only [prim, pMul, this, if_true]
theorem mod_ok {a b : Int} (h : b ≠ 0) : prim .mod [.int a, .int b] = .ok (.int (a.fmod b)) := by
  simp [prim, pI2, h]
theorem fdiv_ok {a b : Int} (h : b ≠ 0) (h2 : b.natAbs < 1073741824) : prim .fdiv [.int a, .int b] = .ok (.int (a.fdiv b)) := by
  simp [prim, pI2, h, h2]
theorem int_ok (a : Int) : prim .int [.int a] = .ok (.int a) := rfl
theorem ix1 (a k : Int) (b : Bool) : prim .ix [dst a k b, .int 1] = .ok (.int k) := rfl
theorem ix0 (a k : Int) (b : Bool) : prim .ix [dst a k b, .int 0] = .ok (.int a) := rfl
theorem ix2 (a k : Int) (b : Bool) : prim .ix [dst a k b, .int 2] = .ok (.bl b) := rfl
theorem pow_ok {a n : Int} (h : (decide (0 ≤ n) && decide ((Builtin.Int.intBits a : Int) * n ≤ 2 ^ 27)) = true) : prim .pow [.int a, .int n] = .ok (.int (a ^ n.toNat)) := by
  simp only [prim, pI2, h, if_true]
theorem shaped_int (o : Bool) (ns : List Int) : noDict (il o ns) = true ∧ SeqAt.shaped (toPy (il o ns)) = true := by
  have hd : ∀ l : List Int, noDictL (l.map .int) = true ∧ PyData.canLayAll0 (toPyL (l.map .int)) = true ∧ PyData.depthAll (toPyL (l.map .int)) = 0 ∧ (toPyL (l.map .int)).length = l.length := by
    intro l
    induction l with
    | nil => exact ⟨rfl, rfl, rfl, rfl⟩
    | cons n l ih =>
      obtain ⟨i1, i2, i3, i4⟩ := ih
      refine ⟨i1, ?_, ?_, ?_⟩
      · show (PyData.canLay0 (.int n) && PyData.canLayAll0 _) = true
        rw [i2]; rfl
      · show max 0 (PyData.depthAll _) = 0
        rw [i3]; rfl
      · show (toPyL (l.map .int)).length + 1 = _
        rw [i4]; rfl
  obtain ⟨i1, i2, i3, i4⟩ := hd ns
  refine ⟨i1, ?_⟩
  show (PyData.canLayAll0 (toPyL (ns.map .int)) && decide (PyData.depthAll (toPyL (ns.map .int)) + 1 ≤ 64)) = true
  rw [i2, i3]; rfl
theorem ne_nil (o : Bool) (ns : List Int) : prim .ne [il o ns, .lst true []] = .ok (.bl (!ns.isEmpty)) := by
  obtain ⟨h1, h2⟩ := shaped_int o ns
  have e : eqD (il o ns) (.lst true []) = .ok ns.isEmpty := by
    unfold eqD
    rw [if_neg (by unfold il; simp [flat])]
    rw [h1, h2]
    cases ns <;> rfl
  simp only [prim, pEq, e, if_true]
theorem lg {v : Int} (h : v.natAbs < 2 ^ 1900) : v.natAbs.log2 < 1920 := by
  by_cases z : v.natAbs = 0
  · rw [z]; decide
  · have h2 : v.natAbs < 2 ^ 1920 := Nat.lt_trans h (Nat.pow_lt_pow_right (by decide) (by decide))
    exact (Nat.log2_lt z).mpr h2
theorem ixN_lt {n : Nat} {i : Int} (h0 : 0 ≤ i) (h1 : i < (n : Int)) : ixN n i = some i.toNat := by
  unfold ixN
  rw [if_pos h0, if_pos h1]
theorem bnd_nil : bnd [] := fun v hv => by cases hv
theorem map_erase : ∀ (l : List Int) (j : Nat), (l.map D.int).eraseIdx j = (l.eraseIdx j).map D.int
  | [], _ => rfl
  | _ :: _, 0 => rfl
  | x :: l, j + 1 => by
    show D.int x :: (l.map D.int).eraseIdx j = D.int x :: (l.eraseIdx j).map D.int
    rw [map_erase l j]
theorem popAt_il {left : List Int} {z : Int} (hl : left.length ≤ 2 ^ 62) (z0 : 0 ≤ z) (z1 : z < (left.length : Int)) (hz : z.toNat < left.length) : popAt (il true left) [.int z] = some (.int left[z.toNat], il true (left.eraseIdx z.toNat)) := by
  have g1 : (decide (-(2 ^ 63) ≤ z) && decide (z < 2 ^ 63)) = true := by
    rw [decide_eq_true (by omega), decide_eq_true (by omega)]; rfl
  show (if (decide (-(2 ^ 63) ≤ z) && decide (z < 2 ^ 63)) = true then (ixN (left.map D.int).length z).bind fun j => (left.map D.int)[j]?.map fun d => (d, D.lst true ((left.map D.int).eraseIdx j)) else none) = _
  rw [if_pos g1, List.length_map, ixN_lt z0 z1]
  show ((left.map D.int)[z.toNat]?).map (fun d => (d, D.lst true ((left.map D.int).eraseIdx z.toNat))) = _
  rw [List.getElem?_map, List.getElem?_eq_getElem hz]
  show some (D.int left[z.toNat], D.lst true ((left.map D.int).eraseIdx z.toNat)) = _
  rw [map_erase]; rfl
theorem ints_of : ∀ {ys : List D}, (∀ y, y ∈ ys → ∃ v : Int, y = .int v ∧ v.natAbs.log2 < 1920) → ∃ ns : List Int, ys = ns.map .int ∧ bnd ns
  | [], _ => ⟨[], rfl, bnd_nil⟩
  | y :: ys, h => by
    obtain ⟨v, rfl, hv⟩ := h y List.mem_cons_self
    obtain ⟨ns, rfl, hb⟩ := ints_of fun z hz => h z (List.mem_cons_of_mem _ hz)
    exact ⟨v :: ns, rfl, fun x hx => by
      rcases List.mem_cons.mp hx with rfl | hx
      · exact hv
      · exact hb x hx⟩
theorem rg2 (i j : Int) : rgData [.int i, .int j] = if (rOk i && rOk j && decide (j - i ≤ line)) = true then some (i, j, 1, (j - i).toNat) else none := rfl
theorem lrng2 {i j : Int} {n : Nat} (h : rgData [.int i, .int j] = some (i, j, 1, n)) : prim .lrng [.int i, .int j] = .ok (.lst true (rangeD i 1 n)) := by
  simp only [prim, pLrng, h]
theorem rOk_small {i : Int} (h0 : -1000000 ≤ i) (h1 : i ≤ 1000000) : rOk i = true := by
  unfold rOk
  rw [decide_eq_true (by omega), decide_eq_true (by omega)]; rfl
theorem rangeD_up (i : Int) (n : Nat) : rangeD i 1 n = ((List.range n).map fun k => i + ((k : Nat) : Int)).map D.int := by
  unfold rangeD
  rw [List.map_map]
  refine List.map_congr_left fun k _ => ?_
  show D.int (i + (k : Int) * 1) = D.int (i + (k : Int))
  rw [Int.mul_one]
theorem lrng_ok {i j : Int} (h0 : -1000000 ≤ i) (h1 : i ≤ 1000000) (h2 : -1000000 ≤ j) (h3 : j ≤ 1000000) : prim .lrng [.int i, .int j] = .ok (il true ((List.range (j - i).toNat).map fun k => i + ((k : Nat) : Int))) := by
  have hl : (line : Int) = 16777216 := rfl
  have g : (rOk i && rOk j && decide (j - i ≤ line)) = true := by
    rw [rOk_small h0 h1, rOk_small h2 h3, decide_eq_true (by omega)]; rfl
  rw [lrng2 (n := (j - i).toNat) (by rw [rg2, if_pos g]), rangeD_up]
  rfl
theorem ix3 {o : Bool} {a b c : D} {d : Int} (fa : noOwn a = true) (fb : noOwn b = true) (fc : noOwn c = true) (h0 : 0 ≤ d) (h1 : d < 3) : prim .ix [.lst o [a, b, c], .int d] = .ok (if d = 0 then a else if d = 1 then b else c) := by
  have : d = 0 ∨ d = 1 ∨ d = 2 := by omega
  rcases this with rfl | rfl | rfl
  · show (if noOwn a = true then R.ok a else .bad) = _
    rw [if_pos fa]; rfl
  · show (if noOwn b = true then R.ok b else .bad) = _
    rw [if_pos fb]; rfl
  · show (if noOwn c = true then R.ok c else .bad) = _
    rw [if_pos fc]; rfl
theorem Dw.flat {m : Nat} {st : D} (h : Dw m st) : allFlat st = true := by obtain ⟨a, k, b, rfl, _, _⟩ := h; rfl
theorem okFam_of {m : Nat} {fam : List (List Int)} (h1 : ∀ p, p ∈ fam.flatten → 1 ≤ p ∧ p ≤ (m : Int)) (h2 : fam.flatten.Nodup) (hm : m ≤ 40) : okFam m fam :=
  ⟨h1, h2, Nat.le_trans (nodup_le m _ h2 h1) (Nat.le_trans hm (by decide))⟩
theorem fam_ok {m g : Nat} {cnt : Nat → Nat} {f : Nat → Nat → Int} (hm : m ≤ 40) (hin : ∀ s k, s < g → k < cnt s → 1 ≤ f s k ∧ f s k ≤ (m : Int)) (hinj : ∀ s k s' k', s < g → k < cnt s → s' < g → k' < cnt s' → f s k = f s' k' → s = s' ∧ k = k') :
    okFam m ((List.range g).map fun s => (List.range (cnt s)).map fun k => f s k) := by
  refine okFam_of (fun p hp => ?_) ?_ hm
  · obtain ⟨ch, hc, hp⟩ := List.mem_flatten.mp hp
    obtain ⟨s, hs, rfl⟩ := List.mem_map.mp hc
    obtain ⟨k, hk, rfl⟩ := List.mem_map.mp hp
    exact hin s k (List.mem_range.mp hs) (List.mem_range.mp hk)
  · show List.Pairwise (· ≠ ·) _
    rw [List.pairwise_flatten]
    refine ⟨fun ch hc => ?_, ?_⟩
    · obtain ⟨s, hs, rfl⟩ := List.mem_map.mp hc
      have hs := List.mem_range.mp hs
      refine List.pairwise_map.mpr (List.Pairwise.imp_of_mem (R := fun a b => a ≠ b) (fun {a b} ha hb hne e => hne ?_) List.nodup_range)
      exact (hinj s a s b hs (List.mem_range.mp ha) hs (List.mem_range.mp hb) e).2
    · refine List.pairwise_map.mpr (List.Pairwise.imp_of_mem (R := fun a b => a ≠ b) (fun {a b} ha hb hne x hx y hy e => hne ?_) List.nodup_range)
      obtain ⟨k, hk, rfl⟩ := List.mem_map.mp hx
      obtain ⟨k', hk', rfl⟩ := List.mem_map.mp hy
      exact (hinj a k b k' (List.mem_range.mp ha) (List.mem_range.mp hk) (List.mem_range.mp hb) (List.mem_range.mp hk') e).1
theorem rangeN_up {i j c : Int} (hc : 0 < c) {k : Nat} (hk : k < rangeN i j c) : i + (k : Int) * c < j := by
  unfold rangeN at hk
  rw [if_pos hc] at hk
  split at hk
  · rename_i hij
    have h0 : 0 ≤ (j - i - 1) / c := Int.ediv_nonneg (by omega) (by omega)
    have hk2 : (k : Int) ≤ (j - i - 1) / c := by omega
    have := Int.mul_le_of_le_ediv hc hk2
    omega
  · omega
theorem rangeN_le {i j c : Int} (hc : 0 < c) : rangeN i j c ≤ (j - i).toNat := by
  unfold rangeN
  rw [if_pos hc]
  split
  · have : (j - i - 1) / c ≤ j - i - 1 := Int.ediv_le_self _ (by omega)
    omega
  · omega
theorem steps_inj {g : Nat} {s s' k k' : Nat} (hs : s < g) (hs' : s' < g) (h : (s : Int) + (k : Int) * g = s' + (k' : Int) * g) : s = s' ∧ k = k' := by
  have h : s + k * g = s' + k' * g := by exact_mod_cast h
  have e : s = s' := by
    have := congrArg (· % g) h
    simpa [Nat.mod_eq_of_lt hs, Nat.mod_eq_of_lt hs'] using this
  refine ⟨e, ?_⟩
  subst e
  have : k * g = k' * g := by omega
  exact Nat.eq_of_mul_eq_mul_right (by omega) this
structure Gath (m : Nat) (told : List (List Int)) (ch left : List Int) : Prop where
  inn : ∀ p, p ∈ told.flatten ++ (ch ++ left) → 1 ≤ p ∧ p ≤ (m : Int)
  nd : (told.flatten ++ (ch ++ left)).Nodup
theorem Gath.perm {m : Nat} {told told' : List (List Int)} {ch left ch' left' : List Int} (g : Gath m told ch left) (h : (told'.flatten ++ (ch' ++ left')).Perm (told.flatten ++ (ch ++ left))) : Gath m told' ch' left' :=
  ⟨fun p hp => g.inn p (h.mem_iff.mp hp), h.nodup_iff.mpr g.nd⟩
theorem Gath.sub {m : Nat} {told : List (List Int)} {ch left left' : List Int} (g : Gath m told ch left) (h : left'.Sublist left) : Gath m told ch left' := by
  have hs : (told.flatten ++ (ch ++ left')).Sublist (told.flatten ++ (ch ++ left)) := (List.Sublist.refl _).append ((List.Sublist.refl _).append h)
  exact ⟨fun p hp => g.inn p (hs.mem hp), g.nd.sublist hs⟩
theorem erase_perm : ∀ {l : List Int} {z : Nat} (h : z < l.length), (l[z] :: l.eraseIdx z).Perm l
  | x :: l, 0, h => .refl _
  | x :: l, z + 1, h => (List.Perm.swap x _ _).trans (.cons x (erase_perm (l := l) (z := z) (by simpa using h)))
theorem Gath.take {m : Nat} {told : List (List Int)} {ch left : List Int} {z : Nat} (g : Gath m told ch left) (h : z < left.length) : Gath m told (ch ++ [left[z]]) (left.eraseIdx z) := by
  refine g.perm (List.Perm.append_left _ ?_)
  rw [List.append_assoc]
  exact List.Perm.append_left _ (erase_perm h)
theorem Gath.put {m : Nat} {told : List (List Int)} {ch left : List Int} (g : Gath m told ch left) : Gath m (told ++ [ch]) [] left := by
  refine g.perm ?_
  simp
theorem frz_mix (o o' : Bool) (fam : List (List Int)) : frz (.lst o (fam.map (il o'))) = fl false fam := by
  have : ∀ l : List (List Int), frzL (l.map (il o')) = l.map (il false) := by
    intro l
    induction l with
    | nil => rfl
    | cons c l ih => simp [frzL, ih]
  simp [fl, frz, this]
theorem ixI_get {ns : List Int} {z : Int} (h0 : 0 ≤ z) (hz : z.toNat < ns.length) : ixI ns z = ns[z.toNat] := by
  rw [ixI_pos h0, List.getD_eq_getElem?_getD, List.getElem?_eq_getElem hz]; rfl
theorem ok_popd {left : List Int} {d : Int} (hl : left.length ≤ 2 ^ 62) (hne : left ≠ []) (K : D × D → Prop) (h : ∀ z : Nat, (hz : z < left.length) → K (.int left[z], il true (left.eraseIdx z))) :
    (left.length : Int) ≠ 0 ∧ Ok (R.ofO (popAt (il true left) [.int (d.fmod left.length)])) K := by
  have hp : 0 < left.length := List.length_pos_iff.mpr hne
  have z0 := Int.fmod_nonneg_of_pos d (show (0 : Int) < left.length by omega)
  have z1 := Int.fmod_lt_of_pos d (show (0 : Int) < left.length by omega)
  refine ⟨by omega, ?_⟩
  generalize Int.fmod d left.length = z at z0 z1
  rw [vpop_il _ _ hl]
  have hz : z.toNat < left.length := by omega
  refine ⟨⟨by omega, z1⟩, ?_⟩
  rw [ixI_get z0 hz, if_pos z0]
  exact h _ hz
theorem frzL_app : ∀ (a b : List D), frzL (a ++ b) = frzL a ++ frzL b
  | [], _ => rfl
  | x :: a, b => by
    show frz x :: frzL (a ++ b) = frz x :: (frzL a ++ frzL b)
    rw [frzL_app a b]
theorem Dw.fresh {m : Nat} {st : D} (h : Dw m st) : isFresh st = true := by obtain ⟨a, k, b, rfl, _, _⟩ := h; rfl
theorem iseq_rl (o : Bool) (row : List (List (List Int))) (K : List D → Prop) : itK .seq [rl o row] K = K (row.map (fl false)) := id rfl
theorem vcut6 (ns : List Int) (h : ns.length ≤ 63) : (cut ns none (some 6)).length ≤ 63 := by
  unfold cut
  simp only [List.length_take, List.length_drop]
  omega
end KS
set_option Elab.async false
set_option linter.all false
set_option maxRecDepth 100000
namespace KS
open PySem L2
/-! ### shapes: families, rows, pairs, from the head -/
section
variable {C : Ctx} {env : Env} {ln : List Nat} {Q : D × Env → Prop} {K : List D → Prop}
theorem fzK_fl (o : Bool) (fam : List (List Int)) (K : D → Prop) : fzK (fl o fam) K = K (fl false fam) := fzK_of (frz_fl o fam) K
theorem fzK_rl (o : Bool) (row : List (List (List Int))) (K : D → Prop) : fzK (rl o row) K = K (rl false row) := fzK_of (frz_rl o row) K
theorem iseq_fl (o : Bool) (fam : List (List Int)) : itK .seq [fl o fam] K = K (fam.map (il o)) := id rfl
theorem ienum_fl (o : Bool) (fam : List (List Int)) : itK .enum [fl o fam] K = K (fam.zipIdx.map fun p => .tup [.int p.2, il o p.1]) := by
  show K ((fam.map (il o)).zipIdx.map fun p => .tup [.int p.2, p.1]) = _
  rw [List.zipIdx_map, List.map_map]; rfl
theorem ienum_rl (o : Bool) (row : List (List (List Int))) : itK .enum [rl o row] K = K (row.zipIdx.map fun p => .tup [.int p.2, fl false p.1]) := by
  show K ((row.map (fl false)).zipIdx.map fun p => .tup [.int p.2, p.1]) = _
  rw [List.zipIdx_map, List.map_map]; rfl
theorem vlen_fl (o : Bool) (fam : List (List Int)) : opK .len ln [fl o fam] env Q = Q (.int fam.length, env) := by
  rw [fl, vlen, List.length_map]
theorem vlen_rl (o : Bool) (row : List (List (List Int))) : opK .len ln [rl o row] env Q = Q (.int row.length, env) := by
  rw [rl, vlen, List.length_map]
theorem visL_il (o : Bool) (ns : List Int) : opK .isList ln [il o ns] env Q = Q (.bl true, env) := visL _ rfl
theorem visL_fl (o : Bool) (fam : List (List Int)) : opK .isList ln [fl o fam] env Q = Q (.bl true, env) := visL _ rfl
theorem visL_rl (o : Bool) (row : List (List (List Int))) : opK .isList ln [rl o row] env Q = Q (.bl true, env) := visL _ rfl
theorem visI_i (n : Int) : opK .isInt ln [.int n] env Q = Q (.bl true, env) := visI _ rfl
theorem visB_i (n : Int) : opK .isBool ln [.int n] env Q = Q (.bl false, env) := visB _ rfl
theorem fresh_fl (fam : List (List Int)) : isFresh (fl true fam) = true := by
  have : ∀ l : List (List Int), isFreshL (l.map (il true)) = true := by
    intro l
    induction l with
    | nil => rfl
    | cons c l ih => simp [isFreshL, ih, il, isFresh, isFreshL_int]
  simp [fl, isFresh, this]
theorem isList_fl (o : Bool) (fam : List (List Int)) : isListD (fl o fam) = true := id rfl
theorem isList_rl (o : Bool) (row : List (List (List Int))) : isListD (rl o row) = true := id rfl
theorem vall_bl (l : List Bool) : opK .all ln [.lst true (l.map .bl)] env Q = Q (.bl (l.all id), env) := by
  have e : prim .all [.lst true (l.map .bl)] = .ok (.bl (l.all id)) := all_bl l
  unfold opK opR; rw [e]; rfl
/-- the family at a place of a row, the chain at a place of a family -/
def ixT {α : Type} (l : List α) (i : Int) (d : α) : α := l.getD (if 0 ≤ i then i else i + l.length).toNat d
theorem ixT_mem {α : Type} {l : List α} {i : Int} {d : α} (h : ixOk l.length i) : ixT l i d ∈ l := by
  unfold ixOk at h
  have hl : (if 0 ≤ i then i else i + l.length).toNat < l.length := by split <;> omega
  unfold ixT
  rw [List.getD_eq_getElem?_getD, List.getElem?_eq_getElem hl]
  exact List.getElem_mem hl
theorem ixT_nat {α : Type} (l : List α) (i : Nat) (d : α) : ixT l (i : Int) d = l.getD i d := by
  unfold ixT
  rw [if_pos (by omega)]; rfl
theorem getIx_map {α : Type} {f : α → D} (hf : ∀ a, noOwn (f a) = true) (l : List α) (d : α) (i : Int) (K : D → Prop) : Ok (getIx (l.map f) i) K = (ixOk l.length i ∧ K (f (ixT l i d))) := by
  unfold getIx atI
  rw [List.length_map, ixN_eq]
  by_cases h : -(l.length : Int) ≤ i ∧ i < l.length
  · rw [if_pos h]
    have hl : (if 0 ≤ i then i else i + l.length).toNat < l.length := by split <;> omega
    have hi : ixT l i d = l[(if 0 ≤ i then i else i + l.length).toNat] := by
      unfold ixT; rw [List.getD_eq_getElem?_getD, List.getElem?_eq_getElem hl]; rfl
    simp only [Option.bind_some, List.getElem?_map, List.getElem?_eq_getElem hl, Option.map_some, hf, if_true]
    rw [hi]
    show K _ = _
    simp [ixOk, h]
  · rw [if_neg h]
    simp [Ok, ixOk, h]
theorem noOwn_il (ns : List Int) : noOwn (il false ns) = true := by simp [il, noOwn, noOwnL_int]
theorem vix_fl (fam : List (List Int)) (i : Int) : opK .ix ln [fl false fam, .int i] env Q = (ixOk fam.length i ∧ Q (il false (ixT fam i []), env)) := by
  rw [opK_eq (by show prim .ix [frz (fl false fam), .int i] = _; rw [frz_fl])]
  exact getIx_map noOwn_il fam [] i _
theorem vix_rl (o : Bool) (row : List (List (List Int))) (i : Int) : opK .ix ln [rl o row, .int i] env Q = (ixOk row.length i ∧ Q (fl false (ixT row i []), env)) := by
  rw [opK_eq (by show prim .ix [frz (rl o row), .int i] = _; rw [frz_rl]; rfl)]
  exact getIx_map noOwn_fl row [] i _
theorem iseq_rl' (row : List (List (List Int))) (o : Bool) : itK .seq [rl o row] K = K (row.map (fl false)) := id rfl
/-- rows of families that are all owned -/
def rlT (row : List (List (List Int))) : D := .lst true (row.map (fl true))
theorem frz_rlT (row : List (List (List Int))) : frz (rlT row) = rl false row := by
  have : ∀ l : List (List (List Int)), frzL (l.map (fl true)) = l.map (fl false) := by
    intro l
    induction l with
    | nil => rfl
    | cons c l ih => simp [frzL, ih]
  simp [rlT, rl, frz, this]
theorem fzK_rlT (row : List (List (List Int))) (K : D → Prop) : fzK (rlT row) K = K (rl false row) := fzK_of (frz_rlT row) K
theorem vmul_rl (o : Bool) (row : List (List (List Int))) (k : Int) : opK .mul ln [rl o row, .int k] env Q = (((row.length * k.toNat ≤ line ∧ -(2 ^ 63) ≤ k) ∧ k < 2 ^ 63) ∧ Q (rl true (List.replicate k.toNat row).flatten, env)) := by
  have hn : ∀ l : List (List (List Int)), noOwnL (l.map (fl false)) = true := by
    intro l
    induction l with
    | nil => rfl
    | cons c l ih => simp [noOwnL, ih, noOwn_fl]
  rw [opK_eq (by show prim .mul [frz (rl o row), .int k] = _; rw [frz_rl]; rfl)]
  show Ok (if (noOwnL (row.map (fl false)) && decide ((row.map (fl false)).length * k.toNat ≤ line) && decide (-(2 ^ 63) ≤ k) && decide (k < 2 ^ 63)) = true then R.ok (D.lst true (List.replicate k.toNat (row.map (fl false))).flatten) else .bad) _ = _
  rw [hn, Bool.true_and, okg, Bool.and_eq_true, Bool.and_eq_true, decide_eq_true_eq, decide_eq_true_eq, decide_eq_true_eq, List.length_map]
  have : (List.replicate k.toNat (row.map (fl false))).flatten = (List.replicate k.toNat row).flatten.map (fl false) := by
    rw [List.map_flatten, List.map_replicate]
  rw [this]; rfl
/-- lists of numbers, of families .., against the empty list -/
def plainD (d : D) : Prop := noDict d = true ∧ PyData.canLay0 (toPy d) = true ∧ PyData.depth (toPy d) ≤ 60
theorem plainL {k : Nat} (hk : k ≤ 60) : ∀ {xs : List D}, (∀ x, x ∈ xs → noDict x = true ∧ PyData.canLay0 (toPy x) = true ∧ PyData.depth (toPy x) ≤ k) → noDictL xs = true ∧ PyData.canLayAll0 (toPyL xs) = true ∧ PyData.depthAll (toPyL xs) ≤ k
  | [], _ => ⟨rfl, rfl, Nat.zero_le _⟩
  | x :: xs, h => by
    obtain ⟨a, b, c⟩ := h x List.mem_cons_self
    obtain ⟨d, e, f⟩ := plainL hk (xs := xs) fun y hy => h y (List.mem_cons_of_mem _ hy)
    refine ⟨?_, ?_, ?_⟩
    · show (noDict x && noDictL xs) = true
      rw [a, d]; rfl
    · show (PyData.canLay0 (toPy x) && PyData.canLayAll0 (toPyL xs)) = true
      rw [b, e]; rfl
    · show max (PyData.depth (toPy x)) (PyData.depthAll (toPyL xs)) ≤ k
      omega
theorem plain_il (o : Bool) (ns : List Int) : noDict (il o ns) = true ∧ PyData.canLay0 (toPy (il o ns)) = true ∧ PyData.depth (toPy (il o ns)) ≤ 1 := by
  obtain ⟨a, b, c⟩ := plainL (k := 0) (by decide) (xs := ns.map .int) fun x hx => by
    obtain ⟨v, _, rfl⟩ := List.mem_map.mp hx
    exact ⟨rfl, rfl, Nat.le_refl _⟩
  exact ⟨a, b, Nat.succ_le_succ c⟩
theorem plain_fl (o : Bool) (fam : List (List Int)) : noDict (fl o fam) = true ∧ PyData.canLay0 (toPy (fl o fam)) = true ∧ PyData.depth (toPy (fl o fam)) ≤ 2 := by
  obtain ⟨a, b, c⟩ := plainL (k := 1) (by decide) (xs := fam.map (il o)) fun x hx => by
    obtain ⟨v, _, rfl⟩ := List.mem_map.mp hx
    exact plain_il o v
  exact ⟨a, b, Nat.succ_le_succ c⟩
theorem eqD_nil {xs : List D} {o o' : Bool} {k : Nat} (hk : k ≤ 60) (h : ∀ x, x ∈ xs → noDict x = true ∧ PyData.canLay0 (toPy x) = true ∧ PyData.depth (toPy x) ≤ k) : eqD (.lst o xs) (.lst o' []) = .ok xs.isEmpty := by
  obtain ⟨a, b, c⟩ := plainL hk h
  have h1 : noDict (.lst o xs) = true := a
  have h2 : SeqAt.shaped (toPy (.lst o xs)) = true := by
    show (PyData.canLayAll0 (toPyL xs) && decide (PyData.depthAll (toPyL xs) + 1 ≤ 64)) = true
    rw [b, decide_eq_true (by omega)]; rfl
  have h3 : noDict (.lst o' []) = true := rfl
  have h4 : SeqAt.shaped (toPy (.lst o' [])) = true := rfl
  unfold eqD
  rw [if_neg (by simp [flat]), h1, h2, h3, h4]
  simp only [Bool.and_self, if_true]
  congr 1
  cases xs <;> rfl
theorem veq_fnil {xs : List D} {o o' : Bool} {k : Nat} (hk : k ≤ 60) (h : ∀ x, x ∈ xs → noDict x = true ∧ PyData.canLay0 (toPy x) = true ∧ PyData.depth (toPy x) ≤ k) : opK .eq ln [.lst o xs, il o' []] env Q = Q (.bl xs.isEmpty, env) := by
  have e : prim .eq [.lst o xs, il o' []] = .ok (.bl xs.isEmpty) := by
    show pEq false [.lst o xs, .lst o' []] = _
    simp only [pEq, eqD_nil hk h]; rfl
  unfold opK opR
  rw [e]
  rfl
theorem vne_fnil {xs : List D} {o o' : Bool} {k : Nat} (hk : k ≤ 60) (h : ∀ x, x ∈ xs → noDict x = true ∧ PyData.canLay0 (toPy x) = true ∧ PyData.depth (toPy x) ≤ k) : opK .ne ln [.lst o xs, il o' []] env Q = Q (.bl (!xs.isEmpty), env) := by
  have e : prim .ne [.lst o xs, il o' []] = .ok (.bl (!xs.isEmpty)) := by
    show pEq true [.lst o xs, .lst o' []] = _
    simp only [pEq, eqD_nil hk h]; rfl
  unfold opK opR
  rw [e]
  rfl
theorem veq_rnil (o o' p : Bool) (row : List (List (List Int))) : opK .eq ln [.lst o (row.map (fl p)), il o' []] env Q = Q (.bl row.isEmpty, env) := by
  rw [veq_fnil (k := 2) (by decide) fun x hx => by obtain ⟨v, _, rfl⟩ := List.mem_map.mp hx; exact plain_fl p v]
  cases row <;> rfl
theorem vne_rnil (o o' p : Bool) (row : List (List (List Int))) : opK .ne ln [.lst o (row.map (fl p)), il o' []] env Q = Q (.bl (!row.isEmpty), env) := by
  rw [vne_fnil (k := 2) (by decide) fun x hx => by obtain ⟨v, _, rfl⟩ := List.mem_map.mp hx; exact plain_fl p v]
  cases row <;> rfl
/-- a dict of whole numbers, True at each -/
def kd (o : Bool) (ks : List Int) : D := .dct o (ks.map fun k => ((.inl k : Key), D.bl true))
theorem frz_kd (o : Bool) (ks : List Int) : frz (kd o ks) = kd false ks := by
  have : ∀ l : List Int, frzK (l.map fun k => ((.inl k : Key), D.bl true)) = l.map fun k => ((.inl k : Key), D.bl true) := by
    intro l
    induction l with
    | nil => rfl
    | cons c l ih => show (_, _) :: frzK _ = _; rw [ih]; rfl
  show D.dct false (frzK _) = _
  rw [this]; rfl
theorem fzK_kd (o : Bool) (ks : List Int) (K : D → Prop) : fzK (kd o ks) K = K (kd false ks) := fzK_of (frz_kd o ks) K
theorem kd_one (k : Int) : D.dct true [(.inl k, .bl true)] = kd true [k] := id rfl
theorem dget_kd (ks : List Int) (x : Int) : dget (ks.map fun k => ((.inl k : Key), D.bl true)) (.inl x) = if ks.contains x = true then some (.bl true) else none := by
  induction ks with
  | nil => rfl
  | cons k ks ih =>
    unfold dget at ih ⊢
    rw [List.map_cons, List.find?_cons]
    by_cases h : k = x
    · subst h
      rw [decide_eq_true (show ((Sum.inl k : Key)) = .inl k from rfl)]
      simp
    · rw [decide_eq_false (fun z => h (by cases z; rfl))]
      rw [List.contains_cons, show (x == k) = false from by simpa using fun z => h z.symm, Bool.false_or]
      exact ih
theorem vdin_kd (o : Bool) (ks : List Int) (x : Int) (K : Option D → Prop) : Ok (R.ofO (dlook (kd o ks) (.int x))) K = K (if ks.contains x = true then some (.bl true) else none) := by
  rw [← dget_kd]; rfl
theorem vdput_kd (ks : List Int) (x : Int) (K : D → Prop) : Ok (R.ofO (dput (kd true ks) (.int x) (.bl true))) K = (ks.length < line ∧ K (kd true (if ks.contains x = true then ks else ks ++ [x]))) := by
  have ea : ((ks.map fun k => ((.inl k : Key), D.bl true)).any fun kv => decide (kv.1 = .inl x)) = ks.contains x := by
    induction ks with
    | nil => rfl
    | cons k ks ih =>
      rw [List.map_cons, List.any_cons, ih, List.contains_cons]
      congr 1
      by_cases h : k = x
      · subst h; simp
      · rw [decide_eq_false (fun z => h (by cases z; rfl))]
        symm
        simpa using fun z => h z.symm
  show Ok (R.ofO (if (ks.map fun k => ((.inl k : Key), D.bl true)).length < line then (keyOf (.int x)).map (fun k => D.dct true (dputL (ks.map fun k => ((.inl k : Key), D.bl true)) k (frz (.bl true)))) else none)) K = _
  rw [List.length_map]
  by_cases hl : ks.length < line
  · rw [if_pos hl]
    show K (.dct true (dputL (ks.map fun k => ((.inl k : Key), D.bl true)) (.inl x) (.bl true))) = _
    have e : dputL (ks.map fun k => ((.inl k : Key), D.bl true)) (.inl x) (.bl true) = (if ks.contains x = true then ks else ks ++ [x]).map fun k => ((.inl k : Key), D.bl true) := by
      unfold dputL
      rw [ea]
      by_cases c : ks.contains x = true
      · rw [if_pos c, if_pos c, List.map_map]
        refine List.map_congr_left fun k _ => ?_
        show (if (Sum.inl k : Key) = .inl x then ((Sum.inl k : Key), D.bl true) else (.inl k, .bl true)) = _
        split <;> rfl
      · rw [if_neg c, if_neg c, List.map_append]; rfl
    rw [e]
    simp [hl, kd]
  · rw [if_neg hl]; simp [R.ofO, Ok, hl]
theorem vdkeys_kd (o : Bool) (ks : List Int) (K : List D → Prop) : Ok (R.ofO (dkeys (kd o ks))) K = K (ks.map .int) := by
  show K ((ks.map fun k => ((.inl k : Key), D.bl true)).map fun kv => keyD kv.1) = _
  rw [List.map_map]; rfl
theorem vapp_fl (c : List Int) (fam : List (List Int)) (K : D → Prop) : Ok (R.ofO (appP (il true c) (fl true fam) [])) K = (fam.length < line ∧ K (fl true (fam ++ [c]))) := by
  rw [fl, vapp, List.length_map]
  unfold fl
  rw [List.map_append]; rfl
theorem vapp_rlT (c : List (List Int)) (row : List (List (List Int))) (K : D → Prop) : Ok (R.ofO (appP (fl true c) (rlT row) [])) K = (row.length < line ∧ K (rlT (row ++ [c]))) := by
  rw [rlT, vapp, List.length_map]
  unfold rlT
  rw [List.map_append]; rfl
/-- one more number in one of the lists of a list -/
theorem vappX (v k : Int) (fam : List (List Int)) (K : D → Prop) : Ok (R.ofO (appAt (.int v) k (fl true fam))) K = ((ixOk fam.length k ∧ (fam.getD (if 0 ≤ k then k else k + fam.length).toNat []).length < line) ∧ K (fl true (fam.set (if 0 ≤ k then k else k + fam.length).toNat (fam.getD (if 0 ≤ k then k else k + fam.length).toNat [] ++ [v])))) := by
  show Ok (R.ofO ((ixN (fam.map (il true)).length k).bind fun n => appP (.int v) (.lst true (fam.map (il true))) [n])) K = _
  rw [List.length_map, ixN_eq]
  by_cases h : -(fam.length : Int) ≤ k ∧ k < fam.length
  · rw [if_pos h]
    have hl : (if 0 ≤ k then k else k + fam.length).toNat < fam.length := by split <;> omega
    generalize (if 0 ≤ k then k else k + fam.length).toNat = j at hl
    show Ok (R.ofO (((fam.map (il true))[j]?).bind fun d => (appP (.int v) d []).map fun d' => .lst true ((fam.map (il true)).set j d'))) K = _
    rw [List.getElem?_map, List.getElem?_eq_getElem hl, Option.map_some, Option.bind_some]
    have hg : fam.getD j [] = fam[j] := by rw [List.getD_eq_getElem?_getD, List.getElem?_eq_getElem hl]; rfl
    rw [hg]
    show Ok (R.ofO ((if (fam[j].map D.int).length < line then some (D.lst true (fam[j].map .int ++ [.int v])) else none).map fun d' => .lst true ((fam.map (il true)).set j d'))) K = _
    rw [List.length_map]
    by_cases h2 : fam[j].length < line
    · rw [if_pos h2]
      show K _ = _
      have : D.lst true (fam[j].map .int ++ [.int v]) = il true (fam[j] ++ [v]) := by unfold il; rw [List.map_append]; rfl
      rw [this]
      dsimp only
      rw [← List.map_set]
      simp [ixOk, h, h2, fl]
    · rw [if_neg h2]; simp [R.ofO, Ok, h2]
  · rw [if_neg h]; simp [R.ofO, Ok, ixOk, h]
theorem perm_0 (a : D) (Q : List D → Prop) : Ok (perm [0] [a]) Q = Q [a] := id rfl
theorem perm_01 (a b : D) (Q : List D → Prop) : Ok (perm [0, 1] [a, b]) Q = Q [a, b] := id rfl
theorem perm_10 (a b : D) (Q : List D → Prop) : Ok (perm [1, 0] [a, b]) Q = Q [b, a] := id rfl
theorem perm_012 (a b c : D) (Q : List D → Prop) : Ok (perm [0, 1, 2] [a, b, c]) Q = Q [a, b, c] := id rfl
theorem perm_021 (a b c : D) (Q : List D → Prop) : Ok (perm [0, 2, 1] [a, b, c]) Q = Q [a, c, b] := id rfl
theorem perm_102 (a b c : D) (Q : List D → Prop) : Ok (perm [1, 0, 2] [a, b, c]) Q = Q [b, a, c] := id rfl
theorem perm_120 (a b c : D) (Q : List D → Prop) : Ok (perm [1, 2, 0] [a, b, c]) Q = Q [b, c, a] := id rfl
theorem perm_201 (a b c : D) (Q : List D → Prop) : Ok (perm [2, 0, 1] [a, b, c]) Q = Q [c, a, b] := id rfl
theorem perm_210 (a b c : D) (Q : List D → Prop) : Ok (perm [2, 1, 0] [a, b, c]) Q = Q [c, b, a] := id rfl
theorem perm_0123 (a b c d : D) (Q : List D → Prop) : Ok (perm [0, 1, 2, 3] [a, b, c, d]) Q = Q [a, b, c, d] := id rfl
theorem perm_0213 (a b c d : D) (Q : List D → Prop) : Ok (perm [0, 2, 1, 3] [a, b, c, d]) Q = Q [a, c, b, d] := id rfl
theorem perm_1023 (a b c d : D) (Q : List D → Prop) : Ok (perm [1, 0, 2, 3] [a, b, c, d]) Q = Q [b, a, c, d] := id rfl
theorem perm_1203 (a b c d : D) (Q : List D → Prop) : Ok (perm [1, 2, 0, 3] [a, b, c, d]) Q = Q [b, c, a, d] := id rfl
theorem perm_2013 (a b c d : D) (Q : List D → Prop) : Ok (perm [2, 0, 1, 3] [a, b, c, d]) Q = Q [c, a, b, d] := id rfl
theorem perm_2103 (a b c d : D) (Q : List D → Prop) : Ok (perm [2, 1, 0, 3] [a, b, c, d]) Q = Q [c, b, a, d] := id rfl
theorem perm_3210 (a b c d : D) (Q : List D → Prop) : Ok (perm [3, 2, 1, 0] [a, b, c, d]) Q = Q [d, c, b, a] := id rfl
theorem toPy_il (o : Bool) (ns : List Int) : toPy (il o ns) = toPy (il false ns) := id rfl
theorem toPy_fl (o : Bool) (fam : List (List Int)) : toPy (fl o fam) = toPy (fl false fam) := by
  have : toPyL (fam.map (il o)) = toPyL (fam.map (il false)) := by
    induction fam with
    | nil => rfl
    | cons c l ih =>
      show toPy (il o c) :: toPyL (l.map (il o)) = toPy (il false c) :: toPyL (l.map (il false))
      rw [ih, toPy_il]
  show PyData.list _ = PyData.list _
  rw [this]
theorem toPy_L {a a' b b' : D} (h : toPy a = toPy a') (k : toPy b = toPy b') (o o' : Bool) : toPy (.lst o [a, b]) = toPy (.lst o' [a', b']) := by
  show PyData.list [toPy a, toPy b] = PyData.list [toPy a', toPy b']
  rw [h, k]
theorem il_five (a0 a1 a2 a3 a4 : Int) : D.lst true [.int a0, .int a1, .int a2, .int a3, .int a4] = il true [a0, a1, a2, a3, a4] := id rfl
theorem il_six (a0 a1 a2 a3 a4 a5 : Int) : D.lst true [.int a0, .int a1, .int a2, .int a3, .int a4, .int a5] = il true [a0, a1, a2, a3, a4, a5] := id rfl
theorem il_seven (a0 a1 a2 a3 a4 a5 a6 : Int) : D.lst true [.int a0, .int a1, .int a2, .int a3, .int a4, .int a5, .int a6] = il true [a0, a1, a2, a3, a4, a5, a6] := id rfl
theorem il_eight (a0 a1 a2 a3 a4 a5 a6 a7 : Int) : D.lst true [.int a0, .int a1, .int a2, .int a3, .int a4, .int a5, .int a6, .int a7] = il true [a0, a1, a2, a3, a4, a5, a6, a7] := id rfl
theorem il_nine (a0 a1 a2 a3 a4 a5 a6 a7 a8 : Int) : D.lst true [.int a0, .int a1, .int a2, .int a3, .int a4, .int a5, .int a6, .int a7, .int a8] = il true [a0, a1, a2, a3, a4, a5, a6, a7, a8] := id rfl
theorem il_ten (a0 a1 a2 a3 a4 a5 a6 a7 a8 a9 : Int) : D.lst true [.int a0, .int a1, .int a2, .int a3, .int a4, .int a5, .int a6, .int a7, .int a8, .int a9] = il true [a0, a1, a2, a3, a4, a5, a6, a7, a8, a9] := id rfl
/-- lists of numbers in a list, theirs not owned -/
def flO (o : Bool) (fam : List (List Int)) : D := .lst o (fam.map (il false))
theorem fzK_flO (o : Bool) (fam : List (List Int)) (K : D → Prop) : fzK (flO o fam) K = K (fl false fam) := by
  have : ∀ l : List (List Int), frzL (l.map (il false)) = l.map (il false) := by
    intro l
    induction l with
    | nil => rfl
    | cons c l ih => show frz (il false c) :: frzL (l.map (il false)) = _; rw [ih, frz_il]; rfl
  refine fzK_of ?_ K
  show D.lst false (frzL (fam.map (il false))) = _
  rw [this]; rfl
theorem vapp_flO (c : List Int) (fam : List (List Int)) (K : D → Prop) : Ok (R.ofO (appP (il false c) (flO true fam) [])) K = (fam.length < line ∧ K (flO true (fam ++ [c]))) := by
  rw [flO, vapp, List.length_map]
  unfold flO
  rw [List.map_append]; rfl
theorem isList_flO (o : Bool) (fam : List (List Int)) : isListD (flO o fam) = true := id rfl
theorem veq_flnil (o o' p : Bool) (fam : List (List Int)) : opK .eq ln [.lst o (fam.map (il p)), il o' []] env Q = Q (.bl fam.isEmpty, env) := by
  rw [veq_fnil (k := 1) (by decide) fun x hx => by obtain ⟨v, _, rfl⟩ := List.mem_map.mp hx; exact plain_il p v]
  cases fam <;> rfl
theorem vne_flnil (o o' p : Bool) (fam : List (List Int)) : opK .ne ln [.lst o (fam.map (il p)), il o' []] env Q = Q (.bl (!fam.isEmpty), env) := by
  rw [vne_fnil (k := 1) (by decide) fun x hx => by obtain ⟨v, _, rfl⟩ := List.mem_map.mp hx; exact plain_il p v]
  cases fam <;> rfl
/-! what may be shown: piece by piece -/
def RP (d : D) (k n : Nat) : Prop := shw d k = true ∧ nodes d ≤ n
theorem rp_ok {d : D} {n : Nat} (h : RP d 16 n) (hn : n ≤ 8000) : reprOk d = true := by
  unfold reprOk
  rw [h.1, decide_eq_true (Nat.le_trans h.2 hn)]; rfl
theorem RP.mono {d : D} {k n n' : Nat} (h : RP d k n) (hn : n ≤ n') : RP d k n' := ⟨h.1, Nat.le_trans h.2 hn⟩
theorem rp_il {ns : List Int} (o : Bool) (h : bnd ns) (k : Nat) {n : Nat} (hn : ns.length + 1 ≤ n) : RP (il o ns) (k + 1) n := ⟨shw_il o h k, by rw [nodes_il]; exact hn⟩
theorem rp_fl {fam : List (List Int)} (o : Bool) (h : ∀ ch, ch ∈ fam → bnd ch) (k : Nat) {n : Nat} (hn : fam.flatten.length + fam.length + 1 ≤ n) : RP (fl o fam) (k + 2) n := ⟨shw_fl o h k, by rw [nodes_fl]; exact hn⟩
theorem rp_2 {a b : D} {k n m : Nat} (o : Bool) (ha : RP a k n) (hb : RP b k m) : RP (.lst o [a, b]) (k + 1) (n + m + 1) := by
  refine ⟨?_, ?_⟩
  · show (shw a k && (shw b k && true)) = true
    rw [ha.1, hb.1]; rfl
  · show nodes a + (nodes b + 0) + 1 ≤ _
    have := ha.2; have := hb.2; omega
theorem rp_L {l : List D} {k n : Nat} (h : ∀ d, d ∈ l → RP d k n) (o : Bool) : RP (.lst o l) (k + 1) (l.length * n + 1) := by
  have : shwL l k = true ∧ nodesL l ≤ l.length * n := by
    induction l with
    | nil => exact ⟨rfl, Nat.zero_le _⟩
    | cons a l ih =>
      obtain ⟨x, y⟩ := ih fun d hd => h d (List.mem_cons_of_mem _ hd)
      obtain ⟨u, v⟩ := h a List.mem_cons_self
      refine ⟨by show (shw a k && shwL l k) = true; rw [u, x]; rfl, ?_⟩
      show nodes a + nodesL l ≤ _
      rw [List.length_cons, Nat.succ_mul]; omega
  exact ⟨this.1, Nat.succ_le_succ this.2⟩
theorem bnd_sm {ns : List Int} (h : ∀ v, v ∈ ns → v.natAbs ≤ 1000000) : bnd ns := fun v hv => lg (Nat.lt_of_le_of_lt (h v hv) (by decide +kernel))
theorem appP_c (y x : D) (r : List D) (p : List Nat) (K : D → Prop) : Ok (R.ofO (appP y (.lst true (x :: r)) (0 :: p))) K = Ok (R.ofO (appP y x p)) fun d => K (.lst true (d :: r)) := by
  show Ok (R.ofO ((appP y x p).map fun d' => .lst true (d' :: r))) K = _
  cases appP y x p <;> rfl
theorem appP_ilN (y : D) (ns : List Int) (K : D → Prop) : Ok (R.ofO (appP y (il true ns) [])) K = (ns.length < line ∧ K (.lst true (ns.map .int ++ [y]))) := by rw [il, vapp, List.length_map]
theorem appP_flN (y : D) (fam : List (List Int)) (K : D → Prop) : Ok (R.ofO (appP y (fl true fam) [])) K = (fam.length < line ∧ K (.lst true (fam.map (il true) ++ [y]))) := by rw [fl, vapp, List.length_map]
theorem fl_c (o : Bool) (c : List Int) (fam : List (List Int)) : fl o (c :: fam) = .lst o (il o c :: fam.map (il o)) := id rfl
theorem vmul_frz1 {x : D} (hx : noOwn x = false) (hf : noOwn (frz x) = true) (k : Int) (h0 : 0 ≤ k) (hk : k ≤ 1000) : opK .mul ln [.lst true [x], .int k] env Q = Q (.lst true (List.replicate k.toNat (frz x)), frzAll env ln) := by
  have hb : prim .mul [.lst true [x], .int k] = .bad := by
    show (if (noOwnL [x] && _ && _ && _) = true then _ else R.bad) = _
    have : noOwnL [x] = false := by show (noOwn x && true) = false; rw [hx]; rfl
    rw [this]; rfl
  rw [opK_frz hb]
  show Ok (if (noOwnL [frz x] && decide (([frz x] : List D).length * k.toNat ≤ line) && decide (-(2 ^ 63) ≤ k) && decide (k < 2 ^ 63)) = true then R.ok (D.lst true (List.replicate k.toNat [frz x]).flatten) else .bad) _ = _
  have : noOwnL [frz x] = true := by show (noOwn (frz x) && true) = true; rw [hf]; rfl
  have hl : line = 16777216 := id rfl
  rw [this, decide_eq_true (by show ([frz x] : List D).length * k.toNat ≤ line; simp; omega), decide_eq_true (by omega), decide_eq_true (by omega)]
  show Q (.lst true (List.replicate k.toNat [frz x]).flatten, _) = _
  have e : ∀ n : Nat, (List.replicate n [frz x]).flatten = List.replicate n (frz x) := by
    intro n
    induction n with
    | zero => rfl
    | succ n ih => rw [List.replicate_succ, List.flatten_cons, ih, List.replicate_succ]; rfl
  rw [e]
theorem vix_frz {l : List D} {i : Nat} {x : D} (h : l[i]? = some x) (hx : noOwn x = false) (hf : noOwn (frz x) = true) (o : Bool) : opK .ix ln [.lst o l, .int (i : Int)] env Q = Q (frz x, frzAll env ln) := by
  have hi : i < l.length := (List.getElem?_eq_some_iff.mp h).1
  have e : ∀ (l : List D) (x : D), l[i]? = some x → getIx l (i : Int) = if noOwn x = true then .ok x else .bad := fun l x h => by
    have hi : i < l.length := (List.getElem?_eq_some_iff.mp h).1
    unfold getIx atI
    rw [ixN_eq, if_pos (by omega), if_pos (by omega), Option.bind_some, show ((i : Int)).toNat = i by omega, h]
  have hb : prim .ix [.lst o l, .int (i : Int)] = .bad := by
    show getIx l (i : Int) = _
    rw [e l x h, hx]; rfl
  have efl : frzL l = l.map frz := by
    clear h hi hb
    induction l with
    | nil => rfl
    | cons a l ih => show frz a :: frzL l = _; rw [ih]; rfl
  rw [opK_frz hb]
  show Ok (getIx (frzL l) (i : Int)) _ = _
  rw [e (frzL l) (frz x) (by rw [efl, List.getElem?_map, h]; rfl), hf]; rfl
theorem vix_frz1 {x : D} (hx : noOwn x = false) (hf : noOwn (frz x) = true) (o : Bool) (y : D) : opK .ix ln [.lst o [y, x], .int 1] env Q = Q (frz x, frzAll env ln) := vix_frz (l := [y, x]) (i := 1) rfl hx hf o
theorem appP_cf (y : D) (c : List Int) (F : List (List Int)) (p : List Nat) (K : D → Prop) : Ok (R.ofO (appP y (fl true (c :: F)) (0 :: p))) K = Ok (R.ofO (appP y (il true c) p)) fun d => K (.lst true (d :: F.map (il true))) := appP_c y (il true c) (F.map (il true)) p K
theorem frzAll_nil (env : Env) : frzAll env [] = env := id rfl
theorem rep_2 (x : D) : List.replicate (Int.toNat 2) x = [x, x] := id rfl
end
end KS
set_option Elab.async false
set_option linter.all false
set_option maxRecDepth 100000
namespace KS
open PySem L2
/-! the steps, gathered -/
def vcA := And.intro @ok_ok <| And.intro @getK_z <| And.intro @getK_s <| And.intro @ok_getE <| And.intro @setK_z <| And.intro @setK_s <| And.intro @ok_setE <| And.intro @ok_setE1 <| And.intro @trK_bl <| And.intro @brK_t <| And.intro @brK_f <| And.intro @brK_dec <| And.intro @brK_not <| And.intro @ok_lit <| And.intro @fzK_int <| And.intro @fzK_bl <| And.intro @fzK_non <| And.intro @fzK_str <| And.intro @fzK_scr <| And.intro @fzK_il <| And.intro @ok_var <| And.intro @ok_op <| And.intro @ok_and <| And.intro @ok_or <| And.intro @ok_ife <| And.intro @ok_chn <| And.intro @ok_lst <| And.intro @ok_tup <| And.intro @ok_frz <| And.intro @ok_A_nil <| And.intro @ok_A_bor <| And.intro @ok_A_cons <| And.intro @ok_L_nil <| And.intro @ok_L_cons <| And.intro @ok_perm_nil <| And.intro @ok_call <| And.intro @ok_callio <| And.intro @conK_c <| And.intro @ok_callT <| And.intro @ok_pop <| And.intro @ok_pop0 <| And.intro @ok_noX <| And.intro @ok_comp <| And.intro @ok_comp2 <| And.intro @ok_setT1 <| And.intro @ok_setT2 <| And.intro @ok_setT3 <| And.intro @ok_setEs0 <| And.intro @ok_setEs <| And.intro @seqK_nx <| And.intro @seqK_ret <| And.intro @seqK_brk <| And.intro @seqK_ct <| And.intro @ok_seq <| And.intro @ok_skip <| And.intro @ok_brk <| And.intro @ok_cnt <| And.intro @ok_asg <| And.intro @tupK_tup <| And.intro @ok_asgT <| And.intro @ok_par <| And.intro @ok_ex <| And.intro @ok_ifs <| And.intro @ok_for <| And.intro @ok_ret <| And.intro @wipK_z <| And.intro @wipK_s <| And.intro @ok_retv <| And.intro @ok_app <| And.intro @ok_appP <| And.intro @ok_seti <| And.intro @ok_aug <| And.intro @ok_appX <| And.intro @ok_dget <| And.intro @ok_din <| And.intro @ok_dsp <| And.intro @fzEK_nil <| And.intro @fzEK_none <| And.intro @fzEK_some <| And.intro @ok_pin <| And.intro @ok_compK <| And.intro @ok_dset <| And.intro @ok_swp <| And.intro @turnQ_nx <| And.intro @turnQ_ct <| And.intro @turnQ_brk <| And.intro @turnQ_ret <| And.intro @finK_r <| And.intro @finK_n <| And.intro @finK_ri <| And.intro @finK_ni <| And.intro @retK_fresh <| And.intro @vadd <| And.intro @vsub <| And.intro @vneg <| And.intro @vnt <| And.intro @vlt <| And.intro @vle <| And.intro @vgt <| And.intro @vge <| And.intro @vint <| And.intro @vintb <| And.intro @vabs <| And.intro @vmax <| And.intro @vmin <| And.intro @veq <| And.intro @vne <| And.intro @veqs <| And.intro @vnes <| And.intro @veqb <| And.intro @vneb <| And.intro @visN_n <| And.intro @visN_i <| And.intro @visN_l <| And.intro @vnotN_n <| And.intro @vnotN_i <| And.intro @vnotN_l <| And.intro @vpart_n <| And.intro @vpart_i <| And.intro @qlt <| And.intro @qle <| And.intro @qgt <| And.intro @qge <| And.intro @qadd <| And.intro @qsub <| And.intro @pmul <| And.intro @vmul <| And.intro @pmod <| And.intro @vmod <| And.intro @pfdiv <| And.intro @vfdiv <| And.intro @vpow <| And.intro @vshl <| And.intro @vshr <| And.intro @vband <| And.intro @vlen_t <| And.intro @vlen_il <| And.intro @vix_il <| And.intro @vscr_ii <| And.intro @vscr_ni <| And.intro @vscr_in <| And.intro @vsl_ii <| And.intro @vsl_ni <| And.intro @vsl_in <| And.intro @vsl_nn <| And.intro @vadd_il <| And.intro @vmul_il <| And.intro @vin_il <| And.intro @vnin_il <| And.intro @vlist_il <| And.intro @vrev_il <| And.intro @vsls_iii <| And.intro @vsls_nni <| And.intro @vsorted_il <| And.intro @vsum_il <| And.intro @vmax_il <| And.intro @vmin_il <| And.intro @veq_il <| And.intro @vne_il <| And.intro @iseq <| And.intro @iseqt <| And.intro @iseq_il <| And.intro @ienum <| And.intro @ienum_il <| And.intro @izip_il <| And.intro @irng1 <| And.intro @irng2 <| And.intro @irng3 <| And.intro @lrngK <| And.intro @rangeD_il <| And.intro @vlrng2 <| And.intro @vlrng1 <| And.intro @vlrng3 <| And.intro @vapp <| And.intro @vapp_il <| And.intro @vset_il <| And.intro @vlen <| And.intro @vpop_il <| And.intro @fzK_fl <| And.intro @fzK_rl <| And.intro @iseq_fl <| And.intro @ienum_fl <| And.intro @ienum_rl <| And.intro @vlen_fl <| And.intro @vlen_rl <| And.intro @visL_il <| And.intro @visL_fl <| And.intro @visL_rl <| And.intro @visI_i <| And.intro @visB_i <| And.intro @vall_bl <| And.intro @vix_fl <| And.intro @vix_rl <| And.intro @iseq_rl' <| And.intro @fzK_rlT <| And.intro @vmul_rl <| And.intro @veq_rnil <| And.intro @vne_rnil <| And.intro @fzK_kd <| And.intro @vdin_kd <| And.intro @vdput_kd <| And.intro @vdkeys_kd <| And.intro @vapp_fl <| And.intro @vapp_rlT <| And.intro @vappX <| And.intro @perm_0 <| And.intro @perm_01 <| And.intro @perm_10 <| And.intro @perm_012 <| And.intro @perm_021 <| And.intro @perm_102 <| And.intro @perm_120 <| And.intro @perm_201 <| And.intro @perm_210 <| And.intro @perm_0123 <| And.intro @perm_0213 <| And.intro @perm_1023 <| And.intro @perm_1203 <| And.intro @perm_2013 <| And.intro @perm_2103 <| And.intro @perm_3210 <| And.intro @fzK_flO <| And.intro @vapp_flO <| And.intro @veq_flnil <| @vne_flnil
def vcB := And.intro @ok_ok <| And.intro @vadd <| And.intro @vsub <| And.intro @vneg <| And.intro @vnt <| And.intro @vlt <| And.intro @vle <| And.intro @vgt <| And.intro @vge <| And.intro @vint <| And.intro @vintb <| And.intro @vabs <| And.intro @vmax <| And.intro @vmin <| And.intro @veq <| And.intro @vne <| And.intro @veqs <| And.intro @vnes <| And.intro @veqb <| And.intro @vneb <| And.intro @visN_n <| And.intro @visN_i <| And.intro @visN_l <| And.intro @vnotN_n <| And.intro @vnotN_i <| And.intro @vnotN_l <| And.intro @vpart_n <| And.intro @vpart_i <| And.intro @qlt <| And.intro @qle <| And.intro @qgt <| And.intro @qge <| And.intro @qadd <| And.intro @qsub <| And.intro @pmul <| And.intro @vmul <| And.intro @pmod <| And.intro @vmod <| And.intro @pfdiv <| And.intro @vfdiv <| And.intro @vpow <| And.intro @vshl <| And.intro @vshr <| And.intro @vband <| And.intro @vlen_t <| And.intro @vlen_il <| And.intro @vix_il <| And.intro @vscr_ii <| And.intro @vscr_ni <| And.intro @vscr_in <| And.intro @vsl_ii <| And.intro @vsl_ni <| And.intro @vsl_in <| And.intro @vsl_nn <| And.intro @vadd_il <| And.intro @vmul_il <| And.intro @vin_il <| And.intro @vnin_il <| And.intro @vlist_il <| And.intro @vrev_il <| And.intro @vsls_iii <| And.intro @vsls_nni <| And.intro @vsorted_il <| And.intro @vsum_il <| And.intro @vmax_il <| And.intro @vmin_il <| And.intro @veq_il <| And.intro @vne_il <| And.intro @iseq <| And.intro @iseqt <| And.intro @iseq_il <| And.intro @ienum <| And.intro @ienum_il <| And.intro @izip_il <| And.intro @irng1 <| And.intro @irng2 <| And.intro @irng3 <| And.intro @lrngK <| And.intro @rangeD_il <| And.intro @vlrng2 <| And.intro @vlrng1 <| And.intro @vlrng3 <| And.intro @vapp <| And.intro @vapp_il <| And.intro @vset_il <| And.intro @trK_bl <| And.intro @brK_t <| And.intro @brK_f <| And.intro @brK_dec <| And.intro @brK_not <| And.intro @fzK_int <| And.intro @fzK_bl <| And.intro @fzK_non <| And.intro @fzK_str <| And.intro @fzK_scr <| And.intro @fzK_il <| And.intro @fzEK_nil <| And.intro @fzEK_none <| And.intro @fzEK_some <| And.intro @nbor_lit <| And.intro @nbor_var <| And.intro @nbor_op <| And.intro @nbor_and <| And.intro @nbor_or <| And.intro @nbor_ife <| And.intro @nbor_chn <| And.intro @nbor_lst <| And.intro @nbor_tup <| And.intro @nbor_call <| And.intro @nbor_pop <| And.intro @nbor_pop0 <| And.intro @nbor_callT <| And.intro @nbor_dget <| And.intro @nbor_din <| And.intro @nbor_dsp <| And.intro @nbor_pin <| And.intro @nbor_compK <| And.intro @nbor_frz <| And.intro @nbor_comp <| And.intro @nbor_comp2 <| And.intro @nvar_lit <| And.intro @nvar_op <| And.intro @nvar_and <| And.intro @nvar_or <| And.intro @nvar_ife <| And.intro @nvar_chn <| And.intro @nvar_lst <| And.intro @nvar_tup <| And.intro @nvar_call <| And.intro @nvar_pop <| And.intro @nvar_pop0 <| And.intro @nvar_callT <| And.intro @nvar_dget <| And.intro @nvar_din <| And.intro @nvar_dsp <| And.intro @nvar_pin <| And.intro @nvar_compK <| And.intro @nvar_frz <| And.intro @nvar_comp <| And.intro @nvar_comp2 <| And.intro @frz_int <| And.intro @frz_bl <| And.intro @frz_non <| And.intro @frz_str <| And.intro @frz_scr <| And.intro @lent_nil <| And.intro @lent_bor <| And.intro @lent_ncons <| And.intro @line_0 <| And.intro @line_1 <| And.intro @line_2 <| And.intro @line_3 <| And.intro @line_4 <| And.intro @line_5 <| And.intro @line_6 <| And.intro @line_7 <| And.intro @line_8 <| And.intro @flat_int <| And.intro @flat_bl <| And.intro @flat_non <| And.intro @flat_str <| And.intro @fresh_int <| And.intro @fresh_bl <| And.intro @fresh_non <| And.intro @fresh_str <| And.intro @cxT_fx <| And.intro @cxT_io <| And.intro @cxT_run <| And.intro @cxT_fuel <| And.intro @il_nil <| And.intro @il_one <| And.intro @il_two <| And.intro @il_three <| And.intro @il_four <| And.intro @isList_il <| And.intro @isList_lst <| And.intro @frz_il <| And.intro @fresh_il <| And.intro @retK_fresh <| And.intro @fzK_fl <| And.intro @fzK_rl <| And.intro @iseq_fl <| And.intro @ienum_fl <| And.intro @ienum_rl <| And.intro @vlen_fl <| And.intro @vlen_rl <| And.intro @visL_il <| And.intro @visL_fl <| And.intro @visL_rl <| And.intro @visI_i <| And.intro @visB_i <| And.intro @vall_bl <| And.intro @vix_fl <| And.intro @vix_rl <| And.intro @iseq_rl' <| And.intro @fzK_rlT <| And.intro @vmul_rl <| And.intro @veq_rnil <| And.intro @vne_rnil <| And.intro @fzK_kd <| And.intro @vdin_kd <| And.intro @vdput_kd <| And.intro @vdkeys_kd <| And.intro @vapp_fl <| And.intro @vapp_rlT <| And.intro @vappX <| And.intro @perm_0 <| And.intro @perm_01 <| And.intro @perm_10 <| And.intro @perm_012 <| And.intro @perm_021 <| And.intro @perm_102 <| And.intro @perm_120 <| And.intro @perm_201 <| And.intro @perm_210 <| And.intro @perm_0123 <| And.intro @perm_0213 <| And.intro @perm_1023 <| And.intro @perm_1203 <| And.intro @perm_2013 <| And.intro @perm_2103 <| And.intro @perm_3210 <| And.intro @fzK_flO <| And.intro @vapp_flO <| And.intro @veq_flnil <| And.intro @vne_flnil <| And.intro @fresh_fl <| And.intro @isList_fl <| And.intro @isList_rl <| And.intro @il_five <| And.intro @il_six <| And.intro @il_seven <| And.intro @il_eight <| And.intro @il_nine <| And.intro @il_ten <| And.intro @isList_flO <| And.intro @frz_fl <| And.intro @frz_rl <| And.intro @frz_rlT <| And.intro @frz_kd <| @kd_one
def vcT := And.intro @ok_turnC <| And.intro @ok_turnF <| And.intro @ok_turnD <| @ok_turnW
end KS
set_option Elab.async false
set_option linter.all false
set_option maxRecDepth 100000
set_option maxHeartbeats 4000000
namespace KS
open PySem L2
def fnsL : List (Str × Fe) := [("is_whole", ⟨0, ["thing"], false, []⟩),
  ("check_number", ⟨1, ["number", "least", "most"], false, []⟩),
  ("check_places", ⟨2, ["places"], false, []⟩),
  ("check_filling", ⟨3, ["filling"], false, []⟩),
  ("check_gap", ⟨4, ["gap", "places"], false, []⟩),
  ("check_gaps", ⟨5, ["gaps", "places"], false, []⟩),
  ("sums_in", ⟨6, ["places", "gaps"], false, []⟩),
  ("missing_in", ⟨7, ["places", "gaps", "gap"], false, []⟩),
  ("swept", ⟨8, ["filling", "gap"], false, []⟩),
  ("sweeps_in", ⟨9, ["filling", "gap"], false, []⟩),
  ("check_passes", ⟨10, ["places", "gaps", "gap"], false, []⟩),
  ("sweeps_needed", ⟨11, ["places", "gaps", "gap"], false, [(["gap", "gaps", "places"], [2, 1, 0])]⟩),
  ("slowest", ⟨12, ["places", "gaps", "gap"], false, [(["gap", "gaps", "places"], [2, 1, 0])]⟩),
  ("sweep", ⟨13, ["filling", "gap"], false, [(["gap", "filling"], [1, 0])]⟩),
  ("count_sweeps", ⟨14, ["filling", "gap"], false, [(["gap", "filling"], [1, 0])]⟩),
  ("_law_draws", ⟨15, ["cell"], false, []⟩),
  ("_law_next", ⟨16, ["draws"], true, []⟩),
  ("_law_sorted", ⟨17, ["load", "lot"], false, []⟩),
  ("_law_load", ⟨18, ["draws", "many"], true, []⟩),
  ("_law_gap_lot", ⟨19, ["many", "step"], false, []⟩),
  ("_law_sums", ⟨20, ["many", "steps"], false, []⟩),
  ("_law_missing", ⟨21, ["many", "steps", "step"], false, []⟩),
  ("_law_swept", ⟨22, ["load", "step"], false, []⟩),
  ("_law_in_order", ⟨23, ["load", "step"], false, []⟩),
  ("_law_count", ⟨24, ["load", "step"], false, []⟩),
  ("_law_one_right", ⟨25, ["load", "step"], false, []⟩),
  ("_law_needed_right", ⟨26, ["draws", "many", "steps", "step"], true, []⟩),
  ("_law_small_right", ⟨27, ["many", "steps", "step"], false, []⟩),
  ("law", ⟨28, ["script"], false, []⟩)]
def csL : List (Str × Int) := [("MOST_PLACES", 40)]
def blL : List Str := ["len", "list", "sorted", "range", "enumerate", "isinstance", "any", "int", "bool", "min", "max", "repr"]
def dnL : List (List Str × List Str) := [(["places", "gaps", "told", "number", "gap"], ["told"]), (["draws", "many", "steps", "step", "before", "due", "told", "worst", "load", "one"], ["."])]
/-- is_whole(thing): 0=thing -/
def ir0 : S := (.ret (.and (.op .isInt (.cons (.bor 0) .nil)) (.op .nt (.cons (.op .isBool (.cons (.bor 0) .nil)) .nil))))
/-- check_number(number, least, most): 0=number 1=least 2=most -/
def ir1 : S := (.ifs (.or (.op .nt (.cons (.call 0 [] (.cons (.bor 0) .nil)) .nil)) (.op .nt (.cons (.chn .le .le (.var 1) (.var 0) (.var 2)) .nil))) (.ex .nil) .skip)
/-- check_places(places): 0=places -/
def ir2 : S := (.ex (.call 1 [] (.cons (.bor 0) (.cons (.lit (.int 1)) (.cons (.lit (.int 40)) .nil)))))
/-- check_filling(filling): 0=filling 1=index 2=value -/
def ir3 : S := (.seq (.ifs (.or (.op .nt (.cons (.op .isList (.cons (.bor 0) .nil)) .nil)) (.op .nt (.cons (.chn .le .le (.lit (.int 1)) (.op .len (.cons (.bor 0) .nil)) (.lit (.int 40))) .nil))) (.ex .nil) .skip)
  (.for_ [1, 2] .enum (.cons (.var 0) .nil) (.ifs (.op .nt (.cons (.call 0 [] (.cons (.bor 2) .nil)) .nil)) (.ex .nil) .skip)))
/-- check_gap(gap, places): 0=gap 1=places -/
def ir4 : S := (.ex (.call 1 [] (.cons (.bor 0) (.cons (.lit (.int 1)) (.cons (.bor 1) .nil)))))
/-- check_gaps(gaps, places): 0=gaps 1=places 2=gap -/
def ir5 : S := (.seq (.ifs (.op .nt (.cons (.op .isList (.cons (.bor 0) .nil)) .nil)) (.ex .nil) .skip)
  (.for_ [2] .seq (.cons (.var 0) .nil) (.ifs (.or (.op .nt (.cons (.call 0 [] (.cons (.bor 2) .nil)) .nil)) (.op .nt (.cons (.chn .le .le (.lit (.int 1)) (.var 2) (.var 1)) .nil))) (.ex .nil) .skip)))
/-- sums_in(places, gaps): 0=places 1=gaps 2=told 3=number 4=gap -/
def ir6 : S := (.seq (.asg 2 (.dsp 0 (.lit (.bl true))))
  (.seq (.for_ [3] .rng2 (.cons (.lit (.int 1)) (.cons (.var 0) .nil)) (.ifs (.op .any (.cons (.comp (.din false (.op .sub (.cons (.bor 3) (.cons (.bor 4) .nil))) 2) [4] .seq (.cons (.var 1) .nil) (.lit (.bl true))) .nil)) (.dset 2 (.var 3) (.lit (.bl true))) .skip))
  (.ret (.compK (.var 3) [3] 2 (.op .gt (.cons (.bor 3) (.cons (.lit (.int 0)) .nil)))))))
/-- missing_in(places, gaps, gap): 0=places 1=gaps 2=gap 3=known 4=number -/
def ir7 : S := (.seq (.asg 3 (.call 6 [] (.cons (.bor 0) (.cons (.bor 1) .nil))))
  (.ret (.comp (.var 4) [4] .rng3 (.cons (.var 2) (.cons (.var 0) (.cons (.var 2) .nil))) (.op .notin (.cons (.bor 4) (.cons (.bor 3) .nil))))))
/-- swept(filling, gap): 0=filling 1=gap 2=told 3=place -/
def ir8 : S := (.seq (.asg 2 (.op .list (.cons (.bor 0) .nil)))
  (.seq (.for_ [3] .rng1 (.cons (.op .sub (.cons (.op .len (.cons (.bor 2) .nil)) (.cons (.bor 1) .nil))) .nil) (.ifs (.op .gt (.cons (.op .ix (.cons (.bor 2) (.cons (.bor 3) .nil))) (.cons (.op .ix (.cons (.bor 2) (.cons (.op .add (.cons (.bor 3) (.cons (.bor 1) .nil))) .nil))) .nil))) (.swp 2 (.var 3) (.op .add (.cons (.bor 3) (.cons (.bor 1) .nil))) (.op .ix (.cons (.bor 2) (.cons (.op .add (.cons (.bor 3) (.cons (.bor 1) .nil))) .nil))) (.op .ix (.cons (.bor 2) (.cons (.bor 3) .nil)))) .skip))
  (.ret (.var 2))))
/-- sweeps_in(filling, gap): 0=filling 1=gap 2=told 3=place 4=value 5=other -/
def ir9 : S := (.seq (.asg 2 (.lit (.int 0)))
  (.seq (.for_ [3, 4] .enum (.cons (.var 0) .nil) (.asg 2 (.op .max2 (.cons (.bor 2) (.cons (.op .len (.cons (.comp (.var 5) [5] .seq (.cons (.op .sls (.cons (.bor 0) (.cons (.op .part (.cons (.op .mod (.cons (.bor 3) (.cons (.bor 1) .nil))) .nil)) (.cons (.op .part (.cons (.bor 3) .nil)) (.cons (.op .part (.cons (.bor 1) .nil)) .nil))))) .nil) (.op .gt (.cons (.bor 5) (.cons (.bor 4) .nil)))) .nil)) .nil)))))
  (.ret (.var 2))))
/-- check_passes(places, gaps, gap): 0=places 1=gaps 2=gap -/
def ir10 : S := (.seq (.ex (.call 2 [] (.cons (.bor 0) .nil)))
  (.seq (.ex (.call 5 [] (.cons (.bor 1) (.cons (.bor 0) .nil))))
  (.ex (.call 4 [] (.cons (.bor 2) (.cons (.bor 0) .nil))))))
/-- sweeps_needed(places, gaps, gap): 0=places 1=gaps 2=gap -/
def ir11 : S := (.seq (.ex (.call 10 [] (.cons (.bor 0) (.cons (.bor 1) (.cons (.bor 2) .nil)))))
  (.ret (.op .len (.cons (.call 7 [] (.cons (.bor 0) (.cons (.bor 1) (.cons (.bor 2) .nil)))) .nil))))
/-- slowest(places, gaps, gap): 0=places 1=gaps 2=gap 3=known 4=place -/
def ir12 : S := (.seq (.ex (.call 10 [] (.cons (.bor 0) (.cons (.bor 1) (.cons (.bor 2) .nil)))))
  (.seq (.asg 3 (.call 6 [] (.cons (.bor 0) (.cons (.bor 1) .nil))))
  (.ret (.comp (.op .int (.cons (.and (.op .gt (.cons (.op .sub (.cons (.bor 0) (.cons (.bor 4) .nil))) (.cons (.lit (.int 0)) .nil))) (.op .notin (.cons (.op .sub (.cons (.bor 0) (.cons (.bor 4) .nil))) (.cons (.bor 3) .nil)))) .nil)) [4] .rng2 (.cons (.lit (.int 1)) (.cons (.op .add (.cons (.bor 0) (.cons (.lit (.int 1)) .nil))) .nil)) (.lit (.bl true))))))
/-- sweep(filling, gap): 0=filling 1=gap -/
def ir13 : S := (.seq (.ex (.call 3 [] (.cons (.bor 0) .nil)))
  (.seq (.ex (.call 4 [] (.cons (.bor 1) (.cons (.op .len (.cons (.bor 0) .nil)) .nil))))
  (.ret (.call 8 [] (.cons (.bor 0) (.cons (.bor 1) .nil))))))
/-- count_sweeps(filling, gap): 0=filling 1=gap -/
def ir14 : S := (.seq (.ex (.call 3 [] (.cons (.bor 0) .nil)))
  (.seq (.ex (.call 4 [] (.cons (.bor 1) (.cons (.op .len (.cons (.bor 0) .nil)) .nil))))
  (.ret (.call 9 [] (.cons (.bor 0) (.cons (.bor 1) .nil))))))
/-- _law_draws(cell): 0=cell -/
def ir15 : S := (.ret (.lst (.cons (.op .mod (.cons (.op .int (.cons (.bor 0) .nil)) (.cons (.op .pow (.cons (.op .pow (.cons (.op .pow (.cons (.lit (.int 10)) (.cons (.lit (.int 60)) .nil))) (.cons (.lit (.int 60)) .nil))) (.cons (.lit (.int 4)) .nil))) .nil))) (.cons (.lit (.int 0)) (.cons (.op .ge (.cons (.bor 0) (.cons (.op .pow (.cons (.lit (.int 10)) (.cons (.lit (.int 18)) .nil))) .nil))) .nil)))))
/-- _law_next(draws): 0=draws 1=k 2=number -/
def ir16 : S := (.seq (.seti 0 (.lit (.int 1)) (.op .add (.cons (.op .ix (.cons (.bor 0) (.cons (.lit (.int 1)) .nil))) (.cons (.lit (.int 1)) .nil))))
  (.seq (.asg 1 (.op .ix (.cons (.bor 0) (.cons (.lit (.int 1)) .nil))))
  (.seq (.ifs (.op .ix (.cons (.bor 0) (.cons (.lit (.int 2)) .nil))) (.seq (.asg 2 (.op .mod (.cons (.op .int (.cons (.op .ix (.cons (.bor 0) (.cons (.lit (.int 0)) .nil))) .nil)) (.cons (.op .pow (.cons (.lit (.int 10)) (.cons (.lit (.int 6)) .nil))) .nil))))
  (.seq (.seti 0 (.lit (.int 0)) (.op .fdiv (.cons (.op .ix (.cons (.bor 0) (.cons (.lit (.int 0)) .nil))) (.cons (.op .pow (.cons (.lit (.int 10)) (.cons (.lit (.int 6)) .nil))) .nil))))
  (.ret (.var 2)))) .skip)
  (.seq (.asg 2 (.op .mod (.cons (.op .int (.cons (.op .mul (.cons (.op .add (.cons (.op .add (.cons (.op .mod (.cons (.op .int (.cons (.op .ix (.cons (.bor 0) (.cons (.lit (.int 0)) .nil))) .nil)) (.cons (.lit (.int 1000003)) .nil))) (.cons (.op .mul (.cons (.op .mul (.cons (.bor 1) (.cons (.bor 1) .nil))) (.cons (.lit (.int 7919)) .nil))) .nil))) (.cons (.bor 1) .nil))) (.cons (.lit (.int 48271)) .nil))) .nil)) (.cons (.lit (.int 2147483629)) .nil))))
  (.seq (.asg 2 (.op .mod (.cons (.op .int (.cons (.op .mul (.cons (.bor 2) (.cons (.bor 2) .nil))) .nil)) (.cons (.lit (.int 2147483587)) .nil))))
  (.ret (.op .fdiv (.cons (.op .mod (.cons (.op .int (.cons (.op .mul (.cons (.bor 2) (.cons (.op .add (.cons (.bor 2) (.cons (.lit (.int 2)) .nil))) .nil))) .nil)) (.cons (.lit (.int 2147483579)) .nil))) (.cons (.lit (.int 7)) .nil)))))))))
/-- _law_sorted(load, lot): 0=load 1=lot 2=told 3=line 4=some 5=at 6=spot -/
def ir17 : S := (.seq (.asg 2 (.op .list (.cons (.bor 0) .nil)))
  (.seq (.for_ [3] .seq (.cons (.var 1) .nil) (.seq (.asg 4 (.op .sorted (.cons (.comp (.op .ix (.cons (.bor 0) (.cons (.op .sub (.cons (.bor 6) (.cons (.lit (.int 1)) .nil))) .nil))) [6] .seq (.cons (.var 3) .nil) (.lit (.bl true))) .nil)))
  (.for_ [5, 6] .enum (.cons (.var 3) .nil) (.seti 2 (.op .sub (.cons (.bor 6) (.cons (.lit (.int 1)) .nil))) (.op .ix (.cons (.bor 4) (.cons (.bor 5) .nil)))))))
  (.ret (.var 2))))
/-- _law_load(draws, many): 0=draws 1=many 2=kind 3=left 4=told 5=scale 6=k -/
def ir18 : S := (.seq (.asg 2 (.op .mod (.cons (.op .int (.cons (.call 16 [] (.cons (.bor 0) .nil)) .nil)) (.cons (.lit (.int 4)) .nil))))
  (.seq (.ifs (.op .gt (.cons (.bor 2) (.cons (.lit (.int 0)) .nil))) (.seq (.asg 5 (.op .ix (.cons (.lst (.cons (.lit (.int 1)) (.cons (.lit (.int 1)) (.cons (.op .pow (.cons (.lit (.int 10)) (.cons (.lit (.int 53)) .nil))) .nil)))) (.cons (.op .mod (.cons (.op .int (.cons (.call 16 [] (.cons (.bor 0) .nil)) .nil)) (.cons (.lit (.int 3)) .nil))) .nil))))
  (.ret (.comp (.op .mul (.cons (.op .sub (.cons (.op .mod (.cons (.op .int (.cons (.call 16 [] (.cons (.bor 0) .nil)) .nil)) (.cons (.op .ix (.cons (.lst (.cons (.lit (.int 2)) (.cons (.var 1) (.cons (.op .pow (.cons (.lit (.int 10)) (.cons (.lit (.int 6)) .nil))) .nil)))) (.cons (.op .sub (.cons (.bor 2) (.cons (.lit (.int 1)) .nil))) .nil))) .nil))) (.cons (.op .mul (.cons (.op .fdiv (.cons (.bor 2) (.cons (.lit (.int 3)) .nil))) (.cons (.lit (.int 500)) .nil))) .nil))) (.cons (.bor 5) .nil))) [6] .rng1 (.cons (.var 1) .nil) (.lit (.bl true))))) .skip)
  (.seq (.asg 3 (.op .lrng (.cons (.lit (.int 1)) (.cons (.op .add (.cons (.bor 1) (.cons (.lit (.int 1)) .nil))) .nil))))
  (.seq (.asg 4 (.lst .nil))
  (.seq (.whl (.op .ne (.cons (.bor 3) (.cons (.lst .nil) .nil))) (.app 4 (.pop 3 (.cons (.op .mod (.cons (.op .int (.cons (.call 16 [] (.cons (.bor 0) .nil)) .nil)) (.cons (.op .len (.cons (.bor 3) .nil)) .nil))) .nil))))
  (.ret (.var 4)))))))
/-- _law_gap_lot(many, step): 0=many 1=step 2=told 3=first 4=spot -/
def ir19 : S := (.seq (.asg 2 (.lst .nil))
  (.seq (.for_ [3] .rng2 (.cons (.lit (.int 1)) (.cons (.op .add (.cons (.op .min2 (.cons (.bor 1) (.cons (.bor 0) .nil))) (.cons (.lit (.int 1)) .nil))) .nil)) (.app 2 (.comp (.var 4) [4] .rng2 (.cons (.lit (.int 1)) (.cons (.op .add (.cons (.bor 0) (.cons (.lit (.int 1)) .nil))) .nil)) (.op .eq (.cons (.op .mod (.cons (.op .sub (.cons (.bor 4) (.cons (.bor 3) .nil))) (.cons (.bor 1) .nil))) (.cons (.lit (.int 0)) .nil))))))
  (.ret (.var 2))))
/-- _law_sums(many, steps): 0=many 1=steps 2=told 3=figure 4=step -/
def ir20 : S := (.seq (.asg 2 (.lst .nil))
  (.seq (.for_ [3] .rng2 (.cons (.lit (.int 1)) (.cons (.var 0) .nil)) (.ifs (.op .ne (.cons (.comp (.var 4) [4] .seq (.cons (.var 1) .nil) (.or (.op .eq (.cons (.bor 3) (.cons (.bor 4) .nil))) (.op .isin (.cons (.op .sub (.cons (.bor 3) (.cons (.bor 4) .nil))) (.cons (.bor 2) .nil))))) (.cons (.lst .nil) .nil))) (.app 2 (.var 3)) .skip))
  (.ret (.var 2))))
/-- _law_missing(many, steps, step): 0=many 1=steps 2=step 3=told 4=turn -/
def ir21 : S := (.seq (.asg 3 (.call 20 [] (.cons (.bor 0) (.cons (.bor 1) .nil))))
  (.ret (.comp (.op .mul (.cons (.bor 4) (.cons (.bor 2) .nil))) [4] .rng2 (.cons (.lit (.int 1)) (.cons (.var 0) .nil)) (.and (.op .lt (.cons (.op .mul (.cons (.bor 4) (.cons (.bor 2) .nil))) (.cons (.bor 0) .nil))) (.op .notin (.cons (.op .mul (.cons (.bor 4) (.cons (.bor 2) .nil))) (.cons (.bor 3) .nil)))))))
/-- _law_swept(load, step): 0=load 1=step 2=told 3=at 4=low 5=high -/
def ir22 : S := (.seq (.asg 2 (.op .list (.cons (.bor 0) .nil)))
  (.seq (.for_ [3] .rng1 (.cons (.op .sub (.cons (.op .len (.cons (.bor 2) .nil)) (.cons (.bor 1) .nil))) .nil) (.seq (.asgT [4, 5] (.tup (.cons (.op .min2 (.cons (.op .ix (.cons (.bor 2) (.cons (.bor 3) .nil))) (.cons (.op .ix (.cons (.bor 2) (.cons (.op .add (.cons (.bor 3) (.cons (.bor 1) .nil))) .nil))) .nil))) (.cons (.op .max2 (.cons (.op .ix (.cons (.bor 2) (.cons (.bor 3) .nil))) (.cons (.op .ix (.cons (.bor 2) (.cons (.op .add (.cons (.bor 3) (.cons (.bor 1) .nil))) .nil))) .nil))) .nil))))
  (.swp 2 (.var 3) (.op .add (.cons (.bor 3) (.cons (.bor 1) .nil))) (.var 4) (.var 5))))
  (.ret (.var 2))))
/-- _law_in_order(load, step): 0=load 1=step 2=at -/
def ir23 : S := (.ret (.op .eq (.cons (.comp (.var 2) [2] .rng1 (.cons (.op .sub (.cons (.op .len (.cons (.bor 0) .nil)) (.cons (.bor 1) .nil))) .nil) (.op .gt (.cons (.op .ix (.cons (.bor 0) (.cons (.bor 2) .nil))) (.cons (.op .ix (.cons (.bor 0) (.cons (.op .add (.cons (.bor 2) (.cons (.bor 1) .nil))) .nil))) .nil)))) (.cons (.lst .nil) .nil))))
/-- _law_count(load, step): 0=load 1=step 2=told -/
def ir24 : S := (.seq (.for_ [2] .rng1 (.cons (.op .add (.cons (.op .len (.cons (.bor 0) .nil)) (.cons (.lit (.int 1)) .nil))) .nil) (.seq (.ifs (.call 23 [] (.cons (.bor 0) (.cons (.bor 1) .nil))) (.ret (.var 2)) .skip)
  (.asg 0 (.call 22 [] (.cons (.bor 0) (.cons (.bor 1) .nil))))))
  (.ret (.lit .non)))
/-- _law_one_right(load, step): 0=load 1=step 2=before 3=due 4=told 5=now 6=far 7=both -/
def ir25 : S := (.seq (.asg 2 (.op .repr (.cons (.bor 0) .nil)))
  (.seq (.asg 3 (.call 24 [] (.cons (.bor 0) (.cons (.bor 1) .nil))))
  (.seq (.asg 4 (.lst (.cons (.call 13 [] (.cons (.bor 0) (.cons (.bor 1) .nil))) (.cons (.call 13 [1, 0] (.cons (.bor 1) (.cons (.bor 0) .nil))) .nil))))
  (.seq (.ifs (.or (.op .ne (.cons (.op .repr (.cons (.bor 4) .nil)) (.cons (.op .repr (.cons (.op .mul (.cons (.lst (.cons (.call 22 [] (.cons (.bor 0) (.cons (.bor 1) .nil))) .nil)) (.cons (.lit (.int 2)) .nil))) .nil)) .nil))) (.op .ne (.cons (.op .repr (.cons (.bor 0) .nil)) (.cons (.bor 2) .nil)))) (.ret (.lit (.bl false))) .skip)
  (.seq (.appP 4 [0] .non)
  (.seq (.ifs (.op .ne (.cons (.op .repr (.cons (.call 13 [] (.cons (.bor 0) (.cons (.bor 1) .nil))) .nil)) (.cons (.op .repr (.cons (.op .ix (.cons (.bor 4) (.cons (.lit (.int 1)) .nil))) .nil)) .nil))) (.ret (.lit (.bl false))) .skip)
  (.seq (.asg 5 (.call 22 [] (.cons (.bor 0) (.cons (.bor 1) .nil))))
  (.seq (.for_ [6] .rng2 (.cons (.lit (.int 1)) (.cons (.op .len (.cons (.bor 0) .nil)) .nil)) (.ifs (.and (.call 23 [] (.cons (.bor 0) (.cons (.bor 6) .nil))) (.op .nt (.cons (.call 23 [] (.cons (.bor 5) (.cons (.bor 6) .nil))) .nil))) (.ret (.lit (.bl false))) .skip))
  (.seq (.asg 7 (.lst (.cons (.call 14 [] (.cons (.bor 0) (.cons (.bor 1) .nil))) (.cons (.call 14 [1, 0] (.cons (.bor 1) (.cons (.bor 0) .nil))) .nil))))
  (.seq (.ifs (.or (.op .ne (.cons (.op .repr (.cons (.bor 7) .nil)) (.cons (.op .repr (.cons (.lst (.cons (.var 3) (.cons (.var 3) .nil))) .nil)) .nil))) (.op .ne (.cons (.op .repr (.cons (.bor 0) .nil)) (.cons (.bor 2) .nil)))) (.ret (.lit (.bl false))) .skip)
  (.ret (.op .eq (.cons (.call 14 [] (.cons (.bor 5) (.cons (.bor 1) .nil))) (.cons (.op .max2 (.cons (.lit (.int 0)) (.cons (.op .sub (.cons (.bor 3) (.cons (.lit (.int 1)) .nil))) .nil))) .nil))))))))))))))
/-- _law_needed_right(draws, many, steps, step): 0=draws 1=many 2=steps 3=step 4=before 5=due 6=told 7=worst 8=load 9=one -/
def ir26 : S := (.seq (.asg 4 (.op .repr (.cons (.bor 2) .nil)))
  (.seq (.asg 5 (.op .len (.cons (.call 21 [] (.cons (.bor 1) (.cons (.bor 2) (.cons (.bor 3) .nil)))) .nil)))
  (.seq (.asg 6 (.lst (.cons (.call 11 [] (.cons (.bor 1) (.cons (.bor 2) (.cons (.bor 3) .nil)))) (.cons (.call 11 [2, 1, 0] (.cons (.bor 3) (.cons (.bor 2) (.cons (.bor 1) .nil)))) .nil))))
  (.seq (.ifs (.pin (.op .ne (.cons (.op .repr (.cons (.bor 6) .nil)) (.cons (.op .repr (.cons (.lst (.cons (.var 5) (.cons (.var 5) .nil))) .nil)) .nil)))) (.ret (.lit (.bl false))) .skip)
  (.seq (.asg 7 (.lst (.cons (.call 12 [] (.cons (.bor 1) (.cons (.bor 2) (.cons (.bor 3) .nil)))) (.cons (.call 12 [2, 1, 0] (.cons (.bor 3) (.cons (.bor 2) (.cons (.bor 1) .nil)))) .nil))))
  (.seq (.ifs (.pin (.or (.op .ne (.cons (.op .repr (.cons (.op .ix (.cons (.bor 7) (.cons (.lit (.int 0)) .nil))) .nil)) (.cons (.op .repr (.cons (.op .ix (.cons (.bor 7) (.cons (.lit (.int 1)) .nil))) .nil)) .nil))) (.or (.op .ne (.cons (.op .len (.cons (.op .ix (.cons (.bor 7) (.cons (.lit (.int 0)) .nil))) .nil)) (.cons (.bor 1) .nil))) (.op .ne (.cons (.op .repr (.cons (.bor 2) .nil)) (.cons (.bor 4) .nil)))))) (.ret (.lit (.bl false))) .skip)
  (.seq (.ifs (.pin (.op .ne (.cons (.comp (.var 9) [9] .seq (.cons (.op .ix (.cons (.bor 7) (.cons (.lit (.int 0)) .nil))) .nil) (.or (.op .nt (.cons (.op .isInt (.cons (.bor 9) .nil)) .nil)) (.op .isBool (.cons (.bor 9) .nil)))) (.cons (.lst .nil) .nil)))) (.ret (.lit (.bl false))) .skip)
  (.seq (.ifs (.pin (.or (.op .ne (.cons (.comp (.var 9) [9] .seq (.cons (.var 2) .nil) (.op .nt (.cons (.call 23 [] (.cons (.op .ix (.cons (.bor 7) (.cons (.lit (.int 0)) .nil))) (.cons (.bor 9) .nil))) .nil))) (.cons (.lst .nil) .nil))) (.op .ne (.cons (.call 24 [] (.cons (.op .ix (.cons (.bor 7) (.cons (.lit (.int 0)) .nil))) (.cons (.bor 3) .nil))) (.cons (.bor 5) .nil))))) (.ret (.lit (.bl false))) .skip)
  (.seq (.appP 7 [0] .non)
  (.seq (.ifs (.pin (.op .ne (.cons (.op .repr (.cons (.call 12 [] (.cons (.bor 1) (.cons (.bor 2) (.cons (.bor 3) .nil)))) .nil)) (.cons (.op .repr (.cons (.op .ix (.cons (.bor 7) (.cons (.lit (.int 1)) .nil))) .nil)) .nil)))) (.ret (.lit (.bl false))) .skip)
  (.seq (.asg 8 (.call 18 [] (.cons (.bor 0) (.cons (.bor 1) .nil))))
  (.seq (.for_ [9] .seq (.cons (.var 2) .nil) (.asg 8 (.call 17 [] (.cons (.bor 8) (.cons (.call 19 [] (.cons (.bor 1) (.cons (.bor 9) .nil))) .nil)))))
  (.ret (.and (.op .le (.cons (.call 14 [] (.cons (.op .list (.cons (.bor 8) .nil)) (.cons (.bor 3) .nil))) (.cons (.bor 5) .nil))) (.call 25 [] (.cons (.bor 8) (.cons (.bor 3) .nil)))))))))))))))))
/-- _law_small_right(many, steps, step): 0=many 1=steps 2=step 3=most 4=marks 5=load 6=at 7=one -/
def ir27 : S := (.seq (.asg 3 (.lit (.int 0)))
  (.seq (.for_ [4] .rng1 (.cons (.op .shl (.cons (.lit (.int 1)) (.cons (.bor 0) .nil))) .nil) (.seq (.asg 5 (.comp (.op .mod (.cons (.op .int (.cons (.op .shr (.cons (.bor 4) (.cons (.bor 6) .nil))) .nil)) (.cons (.lit (.int 2)) .nil))) [6] .rng1 (.cons (.var 0) .nil) (.lit (.bl true))))
  (.ifs (.op .eq (.cons (.comp (.var 7) [7] .seq (.cons (.var 1) .nil) (.op .nt (.cons (.call 23 [] (.cons (.bor 5) (.cons (.bor 7) .nil))) .nil))) (.cons (.lst .nil) .nil))) (.asg 3 (.op .max2 (.cons (.bor 3) (.cons (.call 24 [] (.cons (.bor 5) (.cons (.bor 2) .nil))) .nil)))) .skip)))
  (.ret (.op .eq (.cons (.call 11 [] (.cons (.bor 0) (.cons (.bor 1) (.cons (.bor 2) .nil)))) (.cons (.bor 3) .nil))))))
/-- law(script): 0=script 1=draws 2=many 3=steps 4=step 5=few 6=cell 7=turn -/
def ir28 : S := (.seq (.for_ [1] .seq (.cons (.comp (.call 15 [] (.cons (.bor 6) .nil)) [6] .seq (.cons (.op .add (.cons (.op .sl (.cons (.bor 0) (.cons (.lit .non) (.cons (.op .part (.cons (.lit (.int 5)) .nil)) .nil)))) (.cons (.lst (.cons (.lit (.int 0)) .nil)) .nil))) .nil) (.lit (.bl true))) .nil) (.seq (.asg 2 (.op .add (.cons (.lit (.int 1)) (.cons (.op .mod (.cons (.op .int (.cons (.call 16 [] (.cons (.bor 1) .nil)) .nil)) (.cons (.lit (.int 40)) .nil))) .nil))))
  (.seq (.asg 3 (.comp (.op .add (.cons (.lit (.int 1)) (.cons (.op .mod (.cons (.op .int (.cons (.call 16 [] (.cons (.bor 1) .nil)) .nil)) (.cons (.op .min2 (.cons (.bor 2) (.cons (.lit (.int 14)) .nil))) .nil))) .nil))) [7] .rng1 (.cons (.op .mod (.cons (.op .int (.cons (.call 16 [] (.cons (.bor 1) .nil)) .nil)) (.cons (.lit (.int 4)) .nil))) .nil) (.lit (.bl true))))
  (.seq (.asg 4 (.op .add (.cons (.lit (.int 1)) (.cons (.op .mod (.cons (.op .int (.cons (.call 16 [] (.cons (.bor 1) .nil)) .nil)) (.cons (.op .min2 (.cons (.bor 2) (.cons (.op .ix (.cons (.lst (.cons (.var 2) (.cons (.lit (.int 5)) .nil))) (.cons (.op .mod (.cons (.op .int (.cons (.call 16 [] (.cons (.bor 1) .nil)) .nil)) (.cons (.lit (.int 2)) .nil))) .nil))) .nil))) .nil))) .nil))))
  (.seq (.ifs (.or (.op .nt (.cons (.call 26 [] (.cons (.bor 1) (.cons (.bor 2) (.cons (.bor 3) (.cons (.bor 4) .nil))))) .nil)) (.op .nt (.cons (.call 25 [] (.cons (.call 18 [] (.cons (.bor 1) (.cons (.bor 2) .nil))) (.cons (.bor 4) .nil))) .nil))) (.ret (.lit (.bl false))) .skip)
  (.seq (.asg 5 (.op .add (.cons (.lit (.int 1)) (.cons (.op .mod (.cons (.op .int (.cons (.call 16 [] (.cons (.bor 1) .nil)) .nil)) (.cons (.lit (.int 9)) .nil))) .nil))))
  (.seq (.asg 3 (.comp (.op .add (.cons (.lit (.int 1)) (.cons (.op .mod (.cons (.op .int (.cons (.call 16 [] (.cons (.bor 1) .nil)) .nil)) (.cons (.bor 5) .nil))) .nil))) [7] .rng1 (.cons (.op .mod (.cons (.op .int (.cons (.call 16 [] (.cons (.bor 1) .nil)) .nil)) (.cons (.lit (.int 3)) .nil))) .nil) (.lit (.bl true))))
  (.ifs (.op .nt (.cons (.call 27 [] (.cons (.bor 5) (.cons (.bor 3) (.cons (.op .add (.cons (.lit (.int 1)) (.cons (.op .mod (.cons (.op .int (.cons (.call 16 [] (.cons (.bor 1) .nil)) .nil)) (.cons (.bor 5) .nil))) .nil))) .nil)))) .nil)) (.ret (.lit (.bl false))) .skip))))))))
  (.seq (.ifs (.or (.op .ne (.cons (.call 13 [] (.cons (.lst (.cons (.lit (.int 3)) (.cons (.lit (.int 2)) (.cons (.lit (.int 1)) .nil)))) (.cons (.lit (.int 1)) .nil))) (.cons (.lst (.cons (.lit (.int 2)) (.cons (.lit (.int 1)) (.cons (.lit (.int 3)) .nil)))) .nil))) (.or (.op .ne (.cons (.call 14 [] (.cons (.lst (.cons (.lit (.int 3)) (.cons (.lit (.int 2)) (.cons (.lit (.int 1)) .nil)))) (.cons (.lit (.int 1)) .nil))) (.cons (.lit (.int 2)) .nil))) (.op .ne (.cons (.call 11 [] (.cons (.lit (.int 8)) (.cons (.lst (.cons (.lit (.int 3)) (.cons (.lit (.int 5)) .nil))) (.cons (.lit (.int 1)) .nil)))) (.cons (.lit (.int 4)) .nil))))) (.ret (.lit (.bl false))) .skip)
  (.ret (.and (.call 25 [] (.cons (.lst (.cons (.lit (.int 5)) .nil)) (.cons (.lit (.int 1)) .nil))) (.and (.call 25 [] (.cons (.op .lrng (.cons (.lit (.int 40)) (.cons (.lit (.int 0)) (.cons (.op .neg (.cons (.lit (.int 1)) .nil)) .nil)))) (.cons (.lit (.int 1)) .nil))) (.op .eq (.cons (.call 14 [] (.cons (.lst (.cons (.lit (.int 2)) (.cons (.lit (.int 2)) (.cons (.lit (.int 2)) .nil)))) (.cons (.lit (.int 1)) .nil))) (.cons (.lit (.int 0)) .nil))))))))
def tblL : List FnI := [⟨1, 1, false, ir0⟩,
  ⟨3, 3, false, ir1⟩,
  ⟨1, 1, false, ir2⟩,
  ⟨1, 3, false, ir3⟩,
  ⟨2, 2, false, ir4⟩,
  ⟨2, 3, false, ir5⟩,
  ⟨2, 5, false, ir6⟩,
  ⟨3, 5, false, ir7⟩,
  ⟨2, 4, false, ir8⟩,
  ⟨2, 6, false, ir9⟩,
  ⟨3, 3, false, ir10⟩,
  ⟨3, 3, false, ir11⟩,
  ⟨3, 5, false, ir12⟩,
  ⟨2, 2, false, ir13⟩,
  ⟨2, 2, false, ir14⟩,
  ⟨1, 1, false, ir15⟩,
  ⟨1, 3, true, ir16⟩,
  ⟨2, 7, false, ir17⟩,
  ⟨2, 7, true, ir18⟩,
  ⟨2, 5, false, ir19⟩,
  ⟨2, 5, false, ir20⟩,
  ⟨3, 5, false, ir21⟩,
  ⟨2, 6, false, ir22⟩,
  ⟨2, 3, false, ir23⟩,
  ⟨2, 3, false, ir24⟩,
  ⟨2, 8, false, ir25⟩,
  ⟨4, 10, true, ir26⟩,
  ⟨3, 8, false, ir27⟩,
  ⟨1, 8, false, ir28⟩]
end KS
set_option Elab.async false
set_option linter.all false
set_option maxRecDepth 100000
namespace KS
open PySem L2
def lawFuel : Nat := 2000
def lawLvl : Nat := 16
theorem cio0 : ioT tblL 0 = false := id rfl
theorem tb0 : tblL[0]? = some ⟨1, 1, false, ir0⟩ := id rfl
theorem cio1 : ioT tblL 1 = false := id rfl
theorem tb1 : tblL[1]? = some ⟨3, 3, false, ir1⟩ := id rfl
theorem cio2 : ioT tblL 2 = false := id rfl
theorem tb2 : tblL[2]? = some ⟨1, 1, false, ir2⟩ := id rfl
theorem cio3 : ioT tblL 3 = false := id rfl
theorem tb3 : tblL[3]? = some ⟨1, 3, false, ir3⟩ := id rfl
theorem cio4 : ioT tblL 4 = false := id rfl
theorem tb4 : tblL[4]? = some ⟨2, 2, false, ir4⟩ := id rfl
theorem cio5 : ioT tblL 5 = false := id rfl
theorem tb5 : tblL[5]? = some ⟨2, 3, false, ir5⟩ := id rfl
theorem cio6 : ioT tblL 6 = false := id rfl
theorem tb6 : tblL[6]? = some ⟨2, 5, false, ir6⟩ := id rfl
theorem cio7 : ioT tblL 7 = false := id rfl
theorem tb7 : tblL[7]? = some ⟨3, 5, false, ir7⟩ := id rfl
theorem cio8 : ioT tblL 8 = false := id rfl
theorem tb8 : tblL[8]? = some ⟨2, 4, false, ir8⟩ := id rfl
theorem cio9 : ioT tblL 9 = false := id rfl
theorem tb9 : tblL[9]? = some ⟨2, 6, false, ir9⟩ := id rfl
theorem cio10 : ioT tblL 10 = false := id rfl
theorem tb10 : tblL[10]? = some ⟨3, 3, false, ir10⟩ := id rfl
theorem cio11 : ioT tblL 11 = false := id rfl
theorem tb11 : tblL[11]? = some ⟨3, 3, false, ir11⟩ := id rfl
theorem cio12 : ioT tblL 12 = false := id rfl
theorem tb12 : tblL[12]? = some ⟨3, 5, false, ir12⟩ := id rfl
theorem cio13 : ioT tblL 13 = false := id rfl
theorem tb13 : tblL[13]? = some ⟨2, 2, false, ir13⟩ := id rfl
theorem cio14 : ioT tblL 14 = false := id rfl
theorem tb14 : tblL[14]? = some ⟨2, 2, false, ir14⟩ := id rfl
theorem cio15 : ioT tblL 15 = false := id rfl
theorem tb15 : tblL[15]? = some ⟨1, 1, false, ir15⟩ := id rfl
theorem cio16 : ioT tblL 16 = true := id rfl
theorem tb16 : tblL[16]? = some ⟨1, 3, true, ir16⟩ := id rfl
theorem cio17 : ioT tblL 17 = false := id rfl
theorem tb17 : tblL[17]? = some ⟨2, 7, false, ir17⟩ := id rfl
theorem cio18 : ioT tblL 18 = true := id rfl
theorem tb18 : tblL[18]? = some ⟨2, 7, true, ir18⟩ := id rfl
theorem cio19 : ioT tblL 19 = false := id rfl
theorem tb19 : tblL[19]? = some ⟨2, 5, false, ir19⟩ := id rfl
theorem cio20 : ioT tblL 20 = false := id rfl
theorem tb20 : tblL[20]? = some ⟨2, 5, false, ir20⟩ := id rfl
theorem cio21 : ioT tblL 21 = false := id rfl
theorem tb21 : tblL[21]? = some ⟨3, 5, false, ir21⟩ := id rfl
theorem cio22 : ioT tblL 22 = false := id rfl
theorem tb22 : tblL[22]? = some ⟨2, 6, false, ir22⟩ := id rfl
theorem cio23 : ioT tblL 23 = false := id rfl
theorem tb23 : tblL[23]? = some ⟨2, 3, false, ir23⟩ := id rfl
theorem cio24 : ioT tblL 24 = false := id rfl
theorem tb24 : tblL[24]? = some ⟨2, 3, false, ir24⟩ := id rfl
theorem cio25 : ioT tblL 25 = false := id rfl
theorem tb25 : tblL[25]? = some ⟨2, 8, false, ir25⟩ := id rfl
theorem cio26 : ioT tblL 26 = true := id rfl
theorem tb26 : tblL[26]? = some ⟨4, 10, true, ir26⟩ := id rfl
theorem cio27 : ioT tblL 27 = false := id rfl
theorem tb27 : tblL[27]? = some ⟨3, 8, false, ir27⟩ := id rfl
theorem cio28 : ioT tblL 28 = false := id rfl
theorem tb28 : tblL[28]? = some ⟨1, 8, false, ir28⟩ := id rfl
def vcIo := And.intro @cio0 <| And.intro @cio1 <| And.intro @cio2 <| And.intro @cio3 <| And.intro @cio4 <| And.intro @cio5 <| And.intro @cio6 <| And.intro @cio7 <| And.intro @cio8 <| And.intro @cio9 <| And.intro @cio10 <| And.intro @cio11 <| And.intro @cio12 <| And.intro @cio13 <| And.intro @cio14 <| And.intro @cio15 <| And.intro @cio16 <| And.intro @cio17 <| And.intro @cio18 <| And.intro @cio19 <| And.intro @cio20 <| And.intro @cio21 <| And.intro @cio22 <| And.intro @cio23 <| And.intro @cio24 <| And.intro @cio25 <| And.intro @cio26 <| And.intro @cio27 <| @cio28
end KS
set_option Elab.async false
set_option linter.all false
set_option maxRecDepth 100000
namespace KS
open PySem L2
/-! ### families: what is looked at, sorted, asked -/
theorem f_whole (n : Nat) (i : Int) : runI tblL lawFuel (n + 1) 0 [.int i] = .ok (.bl true, .non) := Ok.eq (by
  rw [ok_run tb0 n _ rfl]
  simp only [ir0, List.map_cons, List.map_nil, List.replicate, List.cons_append, List.nil_append]
  simp only [↓vcA, vcB, vcIo, true_and, and_true, Bool.and_self, List.contains_nil, List.contains_cons, Nat.reduceBEq, Bool.or_false, Bool.false_or, if_true, Bool.false_eq_true, if_false, List.map_cons, List.map_nil, wipeE, List.set_cons_zero, List.set_cons_succ, List.cons_append, List.nil_append]
  rfl)
theorem f_ckfil (n : Nat) (ns : List Int) (h1 : 1 ≤ ns.length) (h2 : ns.length ≤ 40) : runI tblL lawFuel (n + 2) 3 [il false ns] = .ok (.non, .non) := Ok.eq (by
  rw [ok_run tb3 (n + 1) _ rfl]
  simp only [ir3, List.map_cons, List.map_nil, List.replicate, List.cons_append, List.nil_append]
  simp only [↓vcA, vcB, vcIo, true_and, and_true, Bool.and_self, List.contains_nil, List.contains_cons, Nat.reduceBEq, Bool.or_false, Bool.false_or, if_true, Bool.false_eq_true, if_false, List.map_cons, List.map_nil, wipeE, List.set_cons_zero, List.set_cons_succ, List.cons_append, List.nil_append]
  refine ⟨fun _ => ⟨fun _ => ?_, fun z => absurd h2 (by omega)⟩, fun z => absurd h1 (by omega)⟩
  refine ok_forL (fun r env => ∃ x y, env = [some (il false ns), x, y]) ⟨_, _, rfl⟩ (fun p r env hd ⟨x, y, he⟩ => ?_) fun env ⟨x, y, he⟩ => ?_
  · subst he
    simp only [↓vcA, vcB, vcIo, true_and, and_true, Bool.and_self, List.contains_nil, List.contains_cons, Nat.reduceBEq, Bool.or_false, Bool.false_or, if_true, Bool.false_eq_true, if_false, List.map_cons, List.map_nil, wipeE, List.set_cons_zero, List.set_cons_succ, List.cons_append, List.nil_append, ↓vcT, f_whole]
    exact ⟨_, _, rfl⟩
  · subst he
    simp only [↓vcA, vcB, vcIo, true_and, and_true, Bool.and_self, List.contains_nil, List.contains_cons, Nat.reduceBEq, Bool.or_false, Bool.false_or, if_true, Bool.false_eq_true, if_false, List.map_cons, List.map_nil, wipeE, List.set_cons_zero, List.set_cons_succ, List.cons_append, List.nil_append])
theorem ix1_il {ns : List Int} {p : Int} (h : 1 ≤ p ∧ p ≤ (ns.length : Int)) : ixOk ns.length (p - 1) ∧ ixI ns (p - 1) = atP1 ns p :=
  ⟨⟨by omega, by omega⟩, by rw [ixI_pos (by omega)]; rfl⟩
end KS
set_option Elab.async false
set_option linter.all false
set_option maxRecDepth 100000
namespace KS
open PySem L2
/-! ### the draws -/
theorem vix_dst (a k : Int) (b : Bool) (ln : List Nat) (env : Env) (Q : D × Env → Prop) : (opK .ix ln [dst a k b, .int 0] env Q = Q (.int a, env)) ∧ (opK .ix ln [dst a k b, .int 1] env Q = Q (.int k, env)) ∧ (opK .ix ln [dst a k b, .int 2] env Q = Q (.bl b, env)) := ⟨rfl, rfl, rfl⟩
theorem vset_dst (a k x : Int) (b : Bool) (K : D → Prop) : (Ok (R.ofO (setIx (dst a k b) (.int 0) (.int x))) K = K (dst x k b)) ∧ (Ok (R.ofO (setIx (dst a k b) (.int 1) (.int x))) K = K (dst a x b)) := ⟨rfl, rfl⟩
theorem d_next (n m : Nat) (st : D) (h : Dw (m + 1) st) : ∃ d st', runI tblL lawFuel (n + 1) 16 [st] = .ok (.int d, st') ∧ 0 ≤ d ∧ Dw m st' := by
  obtain ⟨a, k, b, rfl, h0, h1⟩ := h
  suffices Ok (runI tblL lawFuel (n + 1) 16 [dst a k b]) fun r => ∃ d st', r = (.int d, st') ∧ 0 ≤ d ∧ Dw m st' by
    obtain ⟨r, e, d, st', rfl, h⟩ := this.elim
    exact ⟨d, st', e, h⟩
  rw [ok_run tb16 n _ rfl]
  simp only [ir16, List.map_cons, List.map_nil, List.replicate, List.cons_append, List.nil_append]
  simp only [↓vcA, vcB, vcIo, true_and, and_true, Bool.and_self, List.contains_nil, List.contains_cons, Nat.reduceBEq, Bool.or_false, Bool.false_or, if_true, Bool.false_eq_true, if_false, List.map_cons, List.map_nil, wipeE, List.set_cons_zero, List.set_cons_succ, List.cons_append, List.nil_append]
  have p6 : (10 : Int) ^ (6 : Int).toNat = 1000000 := rfl
  simp only [↓vcA, vcB, vcIo, true_and, and_true, Bool.and_self, List.contains_nil, List.contains_cons, Nat.reduceBEq, Bool.or_false, Bool.false_or, if_true, Bool.false_eq_true, if_false, List.map_cons, List.map_nil, wipeE, List.set_cons_zero, List.set_cons_succ, List.cons_append, List.nil_append, vix_dst, vset_dst, p6]
  have hk : (k + 1).natAbs < 2 ^ 63 := by omega
  cases b with
  | true =>
    simp only [↓vcA, vcB, vcIo, true_and, and_true, Bool.and_self, List.contains_nil, List.contains_cons, Nat.reduceBEq, Bool.or_false, Bool.false_or, if_true, Bool.false_eq_true, if_false, List.map_cons, List.map_nil, wipeE, List.set_cons_zero, List.set_cons_succ, List.cons_append, List.nil_append, vix_dst, vset_dst, p6]
    exact ⟨⟨by decide, by decide⟩, by decide, ⟨by decide, by decide⟩, ⟨by decide, by decide⟩, _, _, rfl, Int.fmod_nonneg_of_pos _ (by decide), _, _, _, rfl, by omega, by omega⟩
  | false =>
    simp only [↓vcA, vcB, vcIo, true_and, and_true, Bool.and_self, List.contains_nil, List.contains_cons, Nat.reduceBEq, Bool.or_false, Bool.false_or, if_true, Bool.false_eq_true, if_false, List.map_cons, List.map_nil, wipeE, List.set_cons_zero, List.set_cons_succ, List.cons_append, List.nil_append, vix_dst, vset_dst, p6]
    refine ⟨by decide, .inl hk, .inr (by decide), .inr (by decide), by decide, ?_⟩
    generalize hX : Int.fmod _ 2147483629 = X
    have x0 : 0 ≤ X := by rw [← hX]; exact Int.fmod_nonneg_of_pos _ (by decide)
    have x1 : X < 2147483629 := by rw [← hX]; exact Int.fmod_lt_of_pos _ (by decide)
    refine ⟨.inl (by omega), by decide, ?_⟩
    generalize hY : Int.fmod _ 2147483587 = Y
    have y0 : 0 ≤ Y := by rw [← hY]; exact Int.fmod_nonneg_of_pos _ (by decide)
    have y1 : Y < 2147483587 := by rw [← hY]; exact Int.fmod_lt_of_pos _ (by decide)
    exact ⟨.inl (by omega), by decide, ⟨by decide, by decide⟩, _, _, rfl, Int.fdiv_nonneg (Int.fmod_nonneg_of_pos _ (by decide)) (by decide), _, _, _, rfl, by omega, by omega⟩
theorem ok_draw {n m : Nat} {st : D} {K : D × D → Prop} (hd : Dw (m + 1) st) (h : ∀ d st', Dw m st' → allFlat st' = true → K (.int d, st')) : Ok (runI tblL lawFuel (n + 1) 16 [st]) K := by
  obtain ⟨d, st', e, _, hd'⟩ := d_next n m st hd
  exact .intro e (h d st' hd' hd'.flat)
def bud : Nat := 1000000000
theorem d_draws (n : Nat) (c : Int) : ∃ st, runI tblL lawFuel (n + 1) 15 [.int c] = .ok (st, .non) ∧ Dw bud st := by
  suffices Ok (runI tblL lawFuel (n + 1) 15 [.int c]) fun r => ∃ st, r = (st, .non) ∧ Dw bud st by
    obtain ⟨r, e, st, rfl, h⟩ := this.elim
    exact ⟨st, e, h⟩
  rw [ok_run tb15 n _ rfl]
  simp only [ir15, List.map_cons, List.map_nil, List.replicate, List.cons_append, List.nil_append]
  simp only [↓vcA, vcB, vcIo, true_and, and_true, Bool.and_self, List.contains_nil, List.contains_cons, Nat.reduceBEq, Bool.or_false, Bool.false_or, if_true, Bool.false_eq_true, if_false, List.map_cons, List.map_nil, wipeE, List.set_cons_zero, List.set_cons_succ, List.cons_append, List.nil_append]
  refine ⟨by decide +kernel, by decide +kernel, by decide +kernel, ?_⟩
  have hM0 : (((10 : Int) ^ (60 : Int).toNat) ^ (60 : Int).toNat) ^ (4 : Int).toNat ≠ 0 := Int.pow_ne_zero (Int.pow_ne_zero (Int.pow_ne_zero (by decide)))
  generalize (((10 : Int) ^ (60 : Int).toNat) ^ (60 : Int).toNat) ^ (4 : Int).toNat = M at hM0
  generalize hN : (10 : Int) ^ (18 : Int).toNat = N
  refine ⟨hM0, by decide +kernel, _, rfl, c.fmod M, 0, decide (N ≤ c), rfl, Int.le_refl _, by decide⟩
end KS
set_option Elab.async false
set_option linter.all false
set_option maxRecDepth 100000
namespace KS
/-! ### pairs out of order along a line: no program in sight -/
def ltC (x : Int) (l : List Int) : Nat := l.countP fun y => decide (y < x)
def inv : List Int → Nat
  | [] => 0
  | x :: l => ltC x l + inv l
def crs (a b : List Int) : Nat := (a.map fun x => ltC x b).sum
theorem ltC_app (x : Int) (a b : List Int) : ltC x (a ++ b) = ltC x a + ltC x b := by unfold ltC; rw [List.countP_append]
theorem ltC_cons (x y : Int) (l : List Int) : ltC x (y :: l) = ltC x l + if y < x then 1 else 0 := by
  unfold ltC; rw [List.countP_cons]; simp
theorem crs_cons (x : Int) (a b : List Int) : crs (x :: a) b = ltC x b + crs a b := by unfold crs; simp
theorem inv_app : ∀ (a b : List Int), inv (a ++ b) = inv a + crs a b + inv b
  | [], b => by simp [inv, crs]
  | x :: a, b => by
    show ltC x (a ++ b) + inv (a ++ b) = ltC x a + inv a + crs (x :: a) b + inv b
    rw [inv_app a b, ltC_app, crs_cons]; omega
theorem ltC_perm {x : Int} {a b : List Int} (h : a.Perm b) : ltC x a = ltC x b := h.countP_eq _
theorem crs_perm {a b c : List Int} (h : b.Perm c) : crs a b = crs a c := by
  unfold crs
  congr 1
  exact List.map_congr_left fun x _ => ltC_perm h
/-- more of them are below the greater one -/
theorem ltC_mono {x y : Int} (h : y < x) : ∀ l : List Int, ltC y l ≤ ltC x l
  | [] => Nat.le_refl _
  | z :: l => by
    rw [ltC_cons, ltC_cons]
    have := ltC_mono h l
    split <;> split <;> omega
/-- those above -/
def gtC (x : Int) (l : List Int) : Nat := (l.map fun z => if x < z then 1 else 0).sum
theorem gtC_mono {x y : Int} (h : y < x) : ∀ l : List Int, gtC x l ≤ gtC y l
  | [] => Nat.le_refl _
  | z :: l => by
    have := gtC_mono h l
    unfold gtC at this ⊢
    rw [List.map_cons, List.sum_cons, List.map_cons, List.sum_cons]
    split <;> split <;> omega
theorem crs_tail (y : Int) (c : List Int) : ∀ b : List Int, crs b (y :: c) = crs b c + gtC y b
  | [] => rfl
  | z :: b => by
    rw [crs_cons, crs_cons, crs_tail y c b, ltC_cons]
    unfold gtC
    rw [List.map_cons, List.sum_cons]; omega
/-- an exchange of two that are out of order -/
theorem inv_swap {x y : Int} (h : y < x) (a b c : List Int) : inv (a ++ y :: (b ++ x :: c)) < inv (a ++ x :: (b ++ y :: c)) := by
  have hp : (y :: (b ++ x :: c)).Perm (x :: (b ++ y :: c)) := by
    have h1 : (y :: (b ++ x :: c)).Perm (y :: x :: (b ++ c)) := .cons _ List.perm_middle
    have h2 : (x :: (b ++ y :: c)).Perm (x :: y :: (b ++ c)) := .cons _ List.perm_middle
    exact h1.trans ((List.Perm.swap x y _).trans h2.symm)
  rw [inv_app, inv_app, crs_perm hp]
  have e1 : inv (y :: (b ++ x :: c)) = ltC y (b ++ x :: c) + (inv b + crs b (x :: c) + (ltC x c + inv c)) := by
    show _ + inv (b ++ x :: c) = _
    rw [inv_app]; rfl
  have e2 : inv (x :: (b ++ y :: c)) = ltC x (b ++ y :: c) + (inv b + crs b (y :: c) + (ltC y c + inv c)) := by
    show _ + inv (b ++ y :: c) = _
    rw [inv_app]; rfl
  rw [e1, e2, ltC_app x b, ltC_app y b, ltC_cons x y c, ltC_cons y x c, crs_tail x c b, crs_tail y c b, if_pos h, if_neg (by omega)]
  have m1 := ltC_mono h b
  have m2 := gtC_mono h b
  omega
theorem ltC_le (x : Int) (l : List Int) : ltC x l ≤ l.length := List.countP_le_length
theorem inv_le : ∀ l : List Int, 2 * inv l ≤ l.length * (l.length - 1)
  | [] => by simp [inv]
  | x :: l => by
    have h1 := inv_le l
    have h2 := ltC_le x l
    show 2 * (ltC x l + inv l) ≤ (l.length + 1) * (l.length + 1 - 1)
    generalize l.length = n at h1 h2
    rw [Nat.add_sub_cancel, Nat.add_mul, Nat.one_mul]
    cases n with
    | zero => omega
    | succ k =>
      rw [Nat.add_sub_cancel] at h1
      have : (k + 1) * (k + 1) = (k + 1) * k + (k + 1) := Nat.mul_succ _ _
      omega
/-! ### fillings -/
theorem at_ext {t t' : List Int} (hl : t.length = t'.length) (h : ∀ q : Int, 1 ≤ q → q ≤ (t.length : Int) → atP1 t q = atP1 t' q) : t = t' := by
  refine List.ext_getElem hl fun i h1 h2 => ?_
  have := h (i + 1) (by omega) (by omega)
  unfold atP1 at this
  rw [show ((i : Int) + 1 - 1).toNat = i by omega] at this
  rwa [List.getD_eq_getElem?_getD, List.getD_eq_getElem?_getD, List.getElem?_eq_getElem h1, List.getElem?_eq_getElem h2] at this
theorem at_putAll {t ch vs : List Int} (hr : inR t.length ch) (hn : ch.Nodup) (hl : vs.length = ch.length) (q : Int) (h1 : 1 ≤ q) : (q ∉ ch ∧ atP1 (putAll t ch vs) q = atP1 t q) ∨ ∃ (k : Nat) (v : Int), ch[k]? = some q ∧ vs[k]? = some v ∧ atP1 (putAll t ch vs) q = v := by
  by_cases hq : q ∈ ch
  · obtain ⟨k, hk, e⟩ := List.getElem_of_mem hq
    have hk2 : k < vs.length := by omega
    refine .inr ⟨k, vs[k], by rw [List.getElem?_eq_getElem hk, e], List.getElem?_eq_getElem hk2, ?_⟩
    exact put_in hr hn (by rw [List.getElem?_eq_getElem hk, e]) (List.getElem?_eq_getElem hk2)
  · exact .inl ⟨hq, put_out hr h1 hq⟩
/-- two ways to the same filling -/
theorem putAll_eq {t s ch vs : List Int} (hr : inR t.length ch) (hn : ch.Nodup) (hl : vs.length = ch.length) (hs : s.length = t.length) (h1 : ∀ q : Int, 1 ≤ q → q ∉ ch → atP1 s q = atP1 t q) (h2 : ∀ (k : Nat) (q v : Int), ch[k]? = some q → vs[k]? = some v → atP1 s q = v) : s = putAll t ch vs := by
  refine at_ext (by rw [len_putAll]; exact hs) fun q q1 q2 => ?_
  rcases at_putAll hr hn hl q q1 with ⟨a, b⟩ | ⟨k, v, a, b, c⟩
  · rw [b]; exact h1 q q1 a
  · rw [c]; exact h2 k q v a b
/-- what one sorting does: an arrangement of the same values, the same one or nearer to rest -/
structure Nx (ln t t' : List Int) : Prop where
  perm : t'.Perm t
  le : t' = t ∨ inv (ln.map (atP1 t')) < inv (ln.map (atP1 t))
theorem Nx.refl (ln t : List Int) : Nx ln t t := ⟨.refl _, .inl rfl⟩
theorem Nx.trans {ln a b c : List Int} (h : Nx ln a b) (k : Nx ln b c) : Nx ln a c := by
  refine ⟨k.perm.trans h.perm, ?_⟩
  rcases h.le with rfl | h2
  · exact k.le
  · rcases k.le with rfl | k2
    · exact .inr h2
    · exact .inr (by omega)
theorem set2_perm {l : List Int} {i j : Nat} (hi : i < l.length) (hj : j < l.length) : ((l.set i l[j]).set j l[i]).Perm l := List.set_set_perm hi hj
def exch (t : List Int) (p q : Int) : List Int := putL (putL t p (atP1 t q)) q (atP1 t p)
theorem at_get {t : List Int} {p : Int} (h : 1 ≤ p ∧ p ≤ (t.length : Int)) : ∃ h : (p - 1).toNat < t.length, atP1 t p = t[(p - 1).toNat] := by
  refine ⟨by omega, ?_⟩
  unfold atP1
  rw [List.getD_eq_getElem?_getD, List.getElem?_eq_getElem (by omega)]; rfl
theorem exch_perm {t : List Int} {p q : Int} (hp : 1 ≤ p ∧ p ≤ (t.length : Int)) (hq : 1 ≤ q ∧ q ≤ (t.length : Int)) : (exch t p q).Perm t := by
  obtain ⟨a, e1⟩ := at_get hp
  obtain ⟨b, e2⟩ := at_get hq
  unfold exch putL
  rw [e1, e2]
  exact set2_perm a b
theorem at_exch {t : List Int} {p q r : Int} (hp : 1 ≤ p ∧ p ≤ (t.length : Int)) (hq : 1 ≤ q ∧ q ≤ (t.length : Int)) (hr : 1 ≤ r) : atP1 (exch t p q) r = if r = q then atP1 t p else if r = p then atP1 t q else atP1 t r := by
  unfold exch
  have hq' : 1 ≤ q ∧ q ≤ ((putL t p (atP1 t q)).length : Int) := by unfold putL; simpa using hq
  rw [at_put hq' hr, at_put hp hr]
theorem sub_two {c d : Int} : ∀ {cs ln : List Int}, (c :: d :: cs).Sublist ln → ∃ a b e, ln = a ++ c :: (b ++ d :: e)
  | cs, [], h => by cases h
  | cs, x :: ln, h => by
    cases h with
    | cons _ h =>
      obtain ⟨a, b, e, rfl⟩ := sub_two h
      exact ⟨x :: a, b, e, rfl⟩
    | cons_cons _ h =>
      have : d ∈ ln := h.mem List.mem_cons_self
      obtain ⟨b, e, rfl⟩ := List.append_of_mem this
      exact ⟨[], b, e, rfl⟩
theorem exch_nx {ln t : List Int} {c d : Int} {cs : List Int} (hs : (c :: d :: cs).Sublist ln) (hn : ln.Nodup) (hr : inR t.length ln) (h : atP1 t d < atP1 t c) : Nx ln t (exch t c d) := by
  have hc := hr c (hs.mem List.mem_cons_self)
  have hd := hr d (hs.mem (List.mem_cons_of_mem _ List.mem_cons_self))
  refine ⟨exch_perm hc hd, .inr ?_⟩
  obtain ⟨a, b, e, rfl⟩ := sub_two hs
  have hn2 := hn
  rw [List.nodup_append] at hn2
  obtain ⟨na, nc, nac⟩ := hn2
  rw [List.nodup_cons] at nc
  obtain ⟨ncm, nc⟩ := nc
  rw [List.nodup_append] at nc
  obtain ⟨nb, nd, nbd⟩ := nc
  rw [List.nodup_cons] at nd
  have hcd : c ≠ d := fun z => ncm (by rw [z]; simp)
  have same : ∀ l : List Int, (∀ p, p ∈ l → p ≠ c ∧ p ≠ d ∧ 1 ≤ p) → l.map (atP1 (exch t c d)) = l.map (atP1 t) := fun l hl => List.map_congr_left fun p hp => by
    obtain ⟨h1, h2, h3⟩ := hl p hp
    rw [at_exch hc hd h3, if_neg h2, if_neg h1]
  have ea := same a fun p hp => ⟨fun z => nac p hp c (by simp) z, fun z => nac p hp d (by simp) z, (hr p (by simp [hp])).1⟩
  have eb := same b fun p hp => ⟨fun z => ncm (by rw [← z]; simp [hp]), fun z => nbd p hp d (by simp) z, (hr p (by simp [hp])).1⟩
  have ee := same e fun p hp => ⟨fun z => ncm (by rw [← z]; simp [hp]), fun z => nd.1 (by rw [← z]; exact hp), (hr p (by simp [hp])).1⟩
  simp only [List.map_append, List.map_cons]
  rw [ea, eb, ee, at_exch hc hd hc.1, at_exch hc hd hd.1, if_neg hcd, if_pos rfl, if_pos rfl]
  exact inv_swap h _ _ _
theorem putAll_self {t ch : List Int} (hr : inR t.length ch) (hn : ch.Nodup) : putAll t ch (ch.map (atP1 t)) = t :=
  (putAll_eq hr hn (by simp) rfl (fun _ _ _ => rfl) fun k q v h1 h2 => by
    rw [List.getElem?_map, h1] at h2
    simpa using h2).symm
theorem len_insI (x : Int) : ∀ l : List Int, (insI x l).length = l.length + 1
  | [] => rfl
  | y :: l => by unfold insI; split <;> simp [len_insI x l]
/-- one value goes in at its place -/
theorem ins_nx {ln : List Int} (hn : ln.Nodup) : ∀ (c : Int) (cs t : List Int), (c :: cs).Sublist ln → inR t.length ln → Nx ln t (putAll t (c :: cs) (insI (atP1 t c) (cs.map (atP1 t))))
  | c, [], t, hs, hr => by
    have := putAll_self (t := t) (ch := [c]) (fun p hp => hr p (hs.mem hp)) (by simp)
    show Nx ln t (putAll t [c] [atP1 t c])
    have e : putAll t [c] [atP1 t c] = t := this
    rw [e]; exact .refl _ _
  | c, d :: cs, t, hs, hr => by
    have hnc : (c :: d :: cs).Nodup := hn.sublist hs
    have hrc : inR t.length (c :: d :: cs) := fun p hp => hr p (hs.mem hp)
    show Nx ln t (putAll t (c :: d :: cs) (insI (atP1 t c) (atP1 t d :: cs.map (atP1 t))))
    unfold insI
    split
    · have := putAll_self hrc hnc
      have e : putAll t (c :: d :: cs) (atP1 t c :: atP1 t d :: cs.map (atP1 t)) = t := this
      rw [e]; exact .refl _ _
    · rename_i hx
      have s1 := exch_nx hs hn hr (by omega)
      have hc := hrc c (by simp)
      have hd := hrc d (by simp)
      have hl : (exch t c d).length = t.length := s1.perm.length_eq
      have ih := ins_nx hn d cs (exch t c d) ((List.sublist_cons_self _ _).trans hs) (by rw [hl]; exact hr)
      have hcd : c ≠ d := by
        intro z; rw [z] at hnc; simp at hnc
      have e1 : atP1 (exch t c d) d = atP1 t c := by rw [at_exch hc hd hd.1, if_pos rfl]
      have e2 : cs.map (atP1 (exch t c d)) = cs.map (atP1 t) := List.map_congr_left fun p hp => by
        have h1 : p ≠ c := fun z => by rw [z] at hp; simp [hp] at hnc
        have h2 : p ≠ d := fun z => by rw [z] at hp; simp [hp] at hnc
        rw [at_exch hc hd (hrc p (by simp [hp])).1, if_neg h2, if_neg h1]
      rw [e1, e2] at ih
      have hlen : (insI (atP1 t c) (cs.map (atP1 t))).length = (d :: cs).length := by rw [len_insI]; simp
      have hnd : (d :: cs).Nodup := (List.nodup_cons.mp hnc).2
      have hrd : inR (exch t c d).length (d :: cs) := by rw [hl]; exact fun p hp => hrc p (List.mem_cons_of_mem _ hp)
      have e3 : putAll (exch t c d) (d :: cs) (insI (atP1 t c) (cs.map (atP1 t))) = putAll t (c :: d :: cs) (atP1 t d :: insI (atP1 t c) (cs.map (atP1 t))) := by
        refine putAll_eq hrc hnc (by rw [List.length_cons, hlen]; rfl) (by rw [len_putAll, hl]) (fun q q1 hq => ?_) fun k q v h1 h2 => ?_
        · rw [put_out hrd q1 (fun z => hq (List.mem_cons_of_mem _ z)), at_exch hc hd q1, if_neg (fun z => hq (by rw [z]; simp)), if_neg (fun z => hq (by rw [z]; simp))]
        · cases k with
          | zero =>
            cases h1; cases h2
            rw [put_out hrd hc.1 (fun z => (List.nodup_cons.mp hnc).1 z), at_exch hc hd hc.1, if_neg hcd, if_pos rfl]
          | succ k => exact put_in hrd hnd (by simpa using h1) (by simpa using h2)
      rw [e3] at ih
      exact s1.trans ih
theorem len_sortI' (l : List Int) : (sortI l).length = l.length := len_sortI l
/-- one chain is sorted -/
theorem chain_nx {ln : List Int} (hn : ln.Nodup) : ∀ (ch t : List Int), ch.Sublist ln → inR t.length ln → Nx ln t (putAll t ch (sortI (ch.map (atP1 t))))
  | [], t, _, _ => by
    show Nx ln t (putAll t [] [])
    exact .refl _ _
  | c :: cs, t, hs, hr => by
    have hs' : cs.Sublist ln := (List.sublist_cons_self _ _).trans hs
    have ih := chain_nx hn cs t hs' hr
    have hnc : (c :: cs).Nodup := hn.sublist hs
    obtain ⟨hcm, hncs⟩ := List.nodup_cons.mp hnc
    have hrc : inR t.length (c :: cs) := fun p hp => hr p (hs.mem hp)
    have hrs : inR t.length cs := fun p hp => hrc p (List.mem_cons_of_mem _ hp)
    have hlen : (sortI (cs.map (atP1 t))).length = cs.length := by rw [len_sortI]; simp
    generalize ht1 : putAll t cs (sortI (cs.map (atP1 t))) = t1 at ih
    have hl1 : t1.length = t.length := by rw [← ht1, len_putAll]
    have i2 := ins_nx hn c cs t1 hs (by rw [hl1]; exact hr)
    have e1 : atP1 t1 c = atP1 t c := by rw [← ht1]; exact put_out hrs (hrc c (by simp)).1 hcm
    have e2 : cs.map (atP1 t1) = sortI (cs.map (atP1 t)) := by
      refine List.ext_getElem (by rw [hlen]; simp) fun k h1 h2 => ?_
      have hk : k < cs.length := by simpa using h1
      have z := put_in hrs hncs (List.getElem?_eq_getElem hk) (List.getElem?_eq_getElem h2)
      rw [ht1] at z
      rw [List.getElem_map]
      exact z
    rw [e1, e2] at i2
    have e3 : putAll t1 (c :: cs) (insI (atP1 t c) (sortI (cs.map (atP1 t)))) = putAll t (c :: cs) (sortI ((c :: cs).map (atP1 t))) := by
      have hl3 : (insI (atP1 t c) (sortI (cs.map (atP1 t)))).length = (c :: cs).length := by rw [len_insI, hlen]; rfl
      refine putAll_eq hrc hnc (by rw [len_sortI]; simp) (by rw [len_putAll, hl1]) (fun q q1 hq => ?_) fun k q v h1 h2 => ?_
      · rw [put_out (by rw [hl1]; exact hrc) q1 hq, ← ht1, put_out hrs q1 (fun z => hq (List.mem_cons_of_mem _ z))]
      · exact put_in (by rw [hl1]; exact hrc) hnc h1 h2
    rw [e3] at i2
    exact ih.trans i2
/-- chains along a line, none of them with the same place -/
structure Along (line : List Int) (fam : List (List Int)) : Prop where
  sub : ∀ ch, ch ∈ fam → ch.Sublist line
  nd : fam.flatten.Nodup
theorem fam_nx {ln : List Int} (hn : ln.Nodup) (ns : List Int) (hr : inR ns.length ln) : ∀ (fam : List (List Int)) (t : List Int), Along ln fam → t.length = ns.length → (∀ p, p ∈ fam.flatten → atP1 t p = atP1 ns p) → Nx ln t (fam.foldl (sortC ns) t)
  | [], t, _, _, _ => .refl _ _
  | ch :: fam, t, a, hl, h => by
    have hs := a.sub ch List.mem_cons_self
    have nd := a.nd
    rw [List.flatten_cons, List.nodup_append] at nd
    obtain ⟨n1, n2, n3⟩ := nd
    have e : sortC ns t ch = putAll t ch (sortI (ch.map (atP1 t))) := by
      unfold sortC
      congr 2
      exact List.map_congr_left fun p hp => (h p (by simp [hp])).symm
    have i1 := chain_nx hn ch t hs (by rw [hl]; exact hr)
    rw [← e] at i1
    have i2 := fam_nx hn ns hr fam (sortC ns t ch) ⟨fun c hc => a.sub c (List.mem_cons_of_mem _ hc), n2⟩ (by rw [e, len_putAll]; exact hl) fun p hp => by
      have hp1 : 1 ≤ p := by
        obtain ⟨c, hc, hp⟩ := List.mem_flatten.mp hp
        exact (hr p ((a.sub c (List.mem_cons_of_mem _ hc)).mem hp)).1
      rw [e, put_out (fun q hq => by rw [hl]; exact hr q (hs.mem hq)) hp1 (fun z => n3 p z p hp rfl)]
      exact h p (by rw [List.flatten_cons]; exact List.mem_append_right _ hp)
    exact i1.trans i2
theorem sortIn_nx {ln : List Int} (hn : ln.Nodup) {ns : List Int} (hr : inR ns.length ln) {fam : List (List Int)} (a : Along ln fam) : Nx ln ns (sortIn ns fam) :=
  fam_nx hn ns hr fam ns a rfl fun _ _ => rfl
theorem along_self {m : Nat} {fam : List (List Int)} (h : okFam m fam) : Along fam.flatten fam :=
  ⟨fun ch hc => List.sublist_flatten_of_mem hc, h.2.1⟩
theorem sortIn_perm {ns : List Int} {fam : List (List Int)} (h : okFam ns.length fam) : (sortIn ns fam).Perm ns :=
  (sortIn_nx h.2.1 (fun p hp => h.1 p hp) (along_self h)).perm
/-- what is in order stays as it is -/
theorem sortI_self : ∀ {l : List Int}, (∀ pq, pq ∈ l.zip (l.drop 1) → pq.1 ≤ pq.2) → sortI l = l
  | [], _ => rfl
  | [x], _ => rfl
  | x :: y :: l, h => by
    have ih := sortI_self (l := y :: l) fun pq hp => h pq (by simp only [List.drop_one, List.tail_cons, List.zip_cons_cons] at hp ⊢; exact List.mem_cons_of_mem _ hp)
    show insI x (sortI (y :: l)) = _
    rw [ih]
    unfold insI
    rw [if_pos (h (x, y) (by simp))]
theorem isS_self {ns : List Int} {fam : List (List Int)} (h : okFam ns.length fam) (hs : isS ns fam = true) : sortIn ns fam = ns := by
  have main : ∀ l : List (List Int), (∀ ch, ch ∈ l → ch ∈ fam) → l.foldl (sortC ns) ns = ns := by
    intro l
    induction l with
    | nil => intro _; rfl
    | cons ch l ih =>
      intro hl
      have hc := hl ch List.mem_cons_self
      have e : sortC ns ns ch = ns := by
        have hsort : sortI (ch.map (atP1 ns)) = ch.map (atP1 ns) := sortI_self fun pq hp => by
          rw [← List.map_drop, List.zip_map] at hp
          obtain ⟨ab, hab, rfl⟩ := List.mem_map.mp hp
          unfold isS at hs
          have := List.all_eq_true.mp hs ab (List.mem_flatMap.mpr ⟨ch, hc, hab⟩)
          simpa using this
        unfold sortC
        rw [hsort]
        exact putAll_self (fun p hp => h.1 p (List.mem_flatten.mpr ⟨ch, hc, hp⟩)) (h.2.1.sublist (List.sublist_flatten_of_mem hc))
      show l.foldl (sortC ns) (sortC ns ns ch) = ns
      rw [e]
      exact ih fun c hc => hl c (List.mem_cons_of_mem _ hc)
  exact main fam fun _ h => h
end KS
set_option Elab.async false
set_option linter.all false
set_option maxRecDepth 100000
namespace KS
/-! ### gaps: what is in order at one stays so when sorted at another; no program in sight -/
theorem insI_comm (x y : Int) : ∀ l : List Int, insI x (insI y l) = insI y (insI x l)
  | [] => by
    unfold insI
    by_cases h : x ≤ y
    · by_cases k : y ≤ x
      · have : x = y := by omega
        subst this; rfl
      · simp [insI, h, k]
    · simp [insI, h, show y ≤ x by omega]
  | z :: l => by
    have ih := insI_comm x y l
    by_cases hx : x ≤ z
    · by_cases hy : y ≤ z
      · by_cases h : x ≤ y
        · by_cases k : y ≤ x
          · have : x = y := by omega
            subst this; rfl
          · simp [insI, hx, hy, h, k]
        · have k : y ≤ x := by omega
          simp [insI, hx, hy, h, k]
      · have h : x ≤ y := by omega
        have k : ¬ y ≤ x := by omega
        simp [insI, hx, hy, h, k]
    · by_cases hy : y ≤ z
      · have h : ¬ x ≤ y := by omega
        have k : y ≤ x := by omega
        simp [insI, hx, hy, h, k]
      · simp [insI, hx, hy, ih]
theorem sortI_eqp {a b : List Int} (h : a.Perm b) : sortI a = sortI b := by
  induction h with
  | nil => rfl
  | cons x _ ih => show insI x (sortI _) = insI x (sortI _); rw [ih]
  | swap x y l => exact insI_comm y x (sortI l)
  | trans _ _ i1 i2 => exact i1.trans i2
/-- each one is at most the other one's -/
def LeL (a b : List Int) : Prop := ∀ (i : Nat) (x y : Int), a[i]? = some x → b[i]? = some y → x ≤ y
theorem LeL.tail {x y : Int} {a b : List Int} (h : LeL (x :: a) (y :: b)) : LeL a b := fun i u v h1 h2 => h (i + 1) u v (by simpa using h1) (by simpa using h2)
theorem LeL.cons {x y : Int} {a b : List Int} (h0 : x ≤ y) (h : LeL a b) : LeL (x :: a) (y :: b) := fun i u v h1 h2 => by
  cases i with
  | zero => cases h1; cases h2; exact h0
  | succ i => exact h i u v (by simpa using h1) (by simpa using h2)
def Srt (l : List Int) : Prop := l.Pairwise (· ≤ ·)
theorem mem_insI {x z : Int} : ∀ {l : List Int}, z ∈ insI x l → z = x ∨ z ∈ l
  | [], h => by simpa [insI] using h
  | y :: l, h => by
    unfold insI at h
    split at h
    · simpa using h
    · rcases List.mem_cons.mp h with h | h
      · exact .inr (by simp [h])
      · rcases mem_insI h with h | h
        · exact .inl h
        · exact .inr (by simp [h])
theorem srt_insI {x : Int} : ∀ {l : List Int}, Srt l → Srt (insI x l)
  | [], _ => by simp [insI, Srt]
  | y :: l, h => by
    have h' := List.pairwise_cons.mp h
    unfold insI
    split
    · rename_i hxy
      refine List.pairwise_cons.mpr ⟨fun z hz => ?_, h⟩
      rcases List.mem_cons.mp hz with rfl | hz
      · exact hxy
      · exact Int.le_trans hxy (h'.1 z hz)
    · rename_i hxy
      refine List.pairwise_cons.mpr ⟨fun z hz => ?_, srt_insI h'.2⟩
      rcases mem_insI hz with rfl | hz
      · omega
      · exact h'.1 z hz
theorem srt_sortI : ∀ l : List Int, Srt (sortI l)
  | [] => List.Pairwise.nil
  | x :: l => srt_insI (srt_sortI l)
theorem insI_le {x y : Int} (h : x ≤ y) : ∀ {a b : List Int}, a.length = b.length → LeL a b → Srt a → Srt b → LeL (insI x a) (insI y b)
  | [], [], _, _, _, _ => by
    show LeL [x] [y]
    exact LeL.cons h fun i u v h1 h2 => by simp at h1
  | [], _ :: _, hl, _, _, _ => by simp at hl
  | _ :: _, [], hl, _, _, _ => by simp at hl
  | u :: a, v :: b, hl, hab, sa, sb => by
    have h0 : u ≤ v := hab 0 u v rfl rfl
    have ht := hab.tail
    have sa' := List.pairwise_cons.mp sa
    have sb' := List.pairwise_cons.mp sb
    have hl' : a.length = b.length := by simpa using hl
    unfold insI
    by_cases c1 : x ≤ u
    · by_cases c2 : y ≤ v
      · rw [if_pos c1, if_pos c2]
        exact .cons h hab
      · rw [if_pos c1, if_neg c2]
        -- x, u, a against v, insI y b
        refine .cons (by omega) ?_
        -- u :: a against insI y b
        have := insI_le (x := u) (y := y) (by omega) hl' ht sa'.2 sb'.2
        have e : insI u a = u :: a := by
          cases a with
          | nil => rfl
          | cons w a => unfold insI; rw [if_pos (sa'.1 w (by simp))]
        rwa [e] at this
    · by_cases c2 : y ≤ v
      · rw [if_neg c1, if_pos c2]
        -- u, insI x a against y, v, b
        refine .cons (by omega) ?_
        have := insI_le (x := x) (y := v) (by omega) hl' ht sa'.2 sb'.2
        have e : insI v b = v :: b := by
          cases b with
          | nil => rfl
          | cons w b => unfold insI; rw [if_pos (sb'.1 w (by simp))]
        rwa [e] at this
      · rw [if_neg c1, if_neg c2]
        exact .cons h0 (insI_le h hl' ht sa'.2 sb'.2)
theorem sortI_le : ∀ {a b : List Int}, a.length = b.length → LeL a b → LeL (sortI a) (sortI b)
  | [], [], _, _ => fun i u v h1 h2 => by simp [sortI] at h1
  | [], _ :: _, hl, _ => by simp at hl
  | _ :: _, [], hl, _ => by simp at hl
  | x :: a, y :: b, hl, h => insI_le (h 0 x y rfl rfl) (by rw [len_sortI, len_sortI]; simpa using hl) (sortI_le (by simpa using hl) h.tail) (srt_sortI a) (srt_sortI b)
/-- one more: those at a place get less, those one behind it not -/
theorem insI_lo (x : Int) : ∀ {l : List Int}, Srt l → LeL (insI x l) l
  | [], _ => fun i u v h1 h2 => by simp at h2
  | y :: l, s => by
    have s' := List.pairwise_cons.mp s
    unfold insI
    split
    · rename_i hxy
      refine .cons hxy ?_
      have e : insI y l = y :: l := by
        cases l with
        | nil => rfl
        | cons w l => unfold insI; rw [if_pos (s'.1 w (by simp))]
      have := insI_lo y s'.2
      rwa [e] at this
    · exact .cons (Int.le_refl _) (insI_lo x s'.2)
theorem insI_hi (x : Int) : ∀ {l : List Int}, Srt l → LeL l ((insI x l).drop 1)
  | [], _ => fun i u v h1 h2 => by simp at h1
  | y :: l, s => by
    have s' := List.pairwise_cons.mp s
    unfold insI
    split
    · exact fun i u v h1 h2 => by
        have h2 : (y :: l)[i]? = some v := h2
        rw [h1] at h2; cases h2; exact Int.le_refl _
    · rename_i hxy
      show LeL (y :: l) (insI x l)
      cases l with
      | nil => exact .cons (by omega) fun i u v h1 h2 => by simp at h1
      | cons w l =>
        have ih := insI_hi x s'.2
        -- y :: w :: l against insI x (w :: l): first y ≤ its first; the tail by ih
        have hne : ∃ f r, insI x (w :: l) = f :: r := by
          unfold insI; split
          · exact ⟨_, _, rfl⟩
          · exact ⟨_, _, rfl⟩
        obtain ⟨f, r, e⟩ := hne
        rw [e] at ih ⊢
        refine .cons ?_ ih
        have hf : f ∈ insI x (w :: l) := by rw [e]; simp
        rcases mem_insI hf with rfl | hf
        · omega
        · exact s'.1 f hf
theorem LeL.trans {a b c : List Int} (h : LeL a b) (k : LeL b c) (hl : c.length ≤ b.length) : LeL a c := fun i x z h1 h2 => by
  have hi : i < b.length := by have := (List.getElem?_eq_some_iff.mp h2).1; omega
  exact Int.le_trans (h i x b[i] h1 (List.getElem?_eq_getElem hi)) (k i b[i] z (List.getElem?_eq_getElem hi) h2)
theorem sortI_more_lo (l : List Int) : ∀ e : List Int, LeL (sortI (e ++ l)) (sortI l)
  | [] => fun i u v h1 h2 => by
    have h1 : (sortI l)[i]? = some u := h1
    rw [h1] at h2; cases h2; exact Int.le_refl _
  | x :: e => by
    have ih := sortI_more_lo l e
    have h := insI_lo x (srt_sortI (e ++ l))
    exact LeL.trans (b := sortI (e ++ l)) h ih (by rw [len_sortI, len_sortI, List.length_append]; omega)
theorem sortI_more_hi (l : List Int) : ∀ e : List Int, LeL (sortI l) ((sortI (e ++ l)).drop e.length)
  | [] => fun i u v h1 h2 => by
    have h2 : (sortI l)[i]? = some v := h2
    rw [h1] at h2; cases h2; exact Int.le_refl _
  | x :: e => by
    have ih := sortI_more_hi l e
    have h := insI_hi x (srt_sortI (e ++ l))
    intro i u v h1 h2
    have h2 : ((insI x (sortI (e ++ l))).drop (e.length + 1))[i]? = some v := h2
    rw [List.getElem?_drop] at h2
    have hlen : i + e.length < (sortI (e ++ l)).length := by
      have := (List.getElem?_eq_some_iff.mp h1).1
      rw [len_sortI] at this
      rw [len_sortI, List.length_append]; omega
    have m := List.getElem?_eq_getElem hlen
    have a := ih i u _ h1 (by rw [List.getElem?_drop, Nat.add_comm]; exact m)
    have b := h (i + e.length) _ v m (by rw [List.getElem?_drop, ← h2]; congr 1; omega)
    exact Int.le_trans a b
/-- the whole of it: one class against the other, moved by d places -/
theorem class_le {a1 a2 b1 b2 : List Int} (hl : a1.length = b2.length) (h : LeL a1 b2) {r : Nat} {x y : Int} (hr : r < a1.length) (hx : (sortI (a1 ++ a2))[r]? = some x) (hy : (sortI (b1 ++ b2))[r + b1.length]? = some y) : x ≤ y := by
  have p : sortI (a1 ++ a2) = sortI (a2 ++ a1) := sortI_eqp List.perm_append_comm
  rw [p] at hx
  have l1 : r < (sortI a1).length := by rw [len_sortI]; exact hr
  have l2 : r < (sortI b2).length := by rw [len_sortI]; omega
  have m1 := List.getElem?_eq_getElem l1
  have m2 := List.getElem?_eq_getElem l2
  have s1 := sortI_more_lo a1 a2 r x _ hx m1
  have s2 := sortI_le hl h r _ _ m1 m2
  have s3 := sortI_more_hi b2 b1 r _ y m2 (by rw [List.getElem?_drop, Nat.add_comm]; exact hy)
  omega
/-! ### the family of a gap -/
def cntG (m s f : Nat) : Nat := (m - f + s - 1) / s
/-- the places that are alike by a gap: the chain that begins at 1 + f -/
def gapCh (m s f : Nat) : List Int := (List.range (cntG m s f)).map fun (k : Nat) => 1 + (f : Int) + (k : Int) * s
def gapFam (m s : Nat) : List (List Int) := (List.range (min s m)).map (gapCh m s)
theorem cntG_lt {m s f k : Nat} (hs : 0 < s) (hf : f < m) : k < cntG m s f ↔ f + k * s < m := by
  unfold cntG
  rw [Nat.lt_div_iff_mul_lt hs]
  constructor <;> intro h <;> omega
theorem gapFam_ok {m s : Nat} (hs : 0 < s) (hm : m ≤ 40) : okFam m (gapFam m s) := by
  refine fam_ok (f := fun f k => 1 + (f : Int) + (k : Int) * s) hm (fun f k hf hk => ?_) fun f k f' k' hf hk hf' hk' e => ?_
  · have hfm : f < m := by omega
    have := (cntG_lt hs hfm).mp hk
    have e : ((f + k * s : Nat) : Int) = (f : Int) + (k : Int) * s := by push_cast; rfl
    generalize (k : Int) * s = w at *
    omega
  · have e : (f : Int) + (k : Int) * s = (f' : Int) + (k' : Int) * s := by omega
    exact steps_inj (g := s) (by omega) (by omega) e
/-- in order at a gap -/
def inOrd (ns : List Int) (h : Nat) : Prop := ∀ i : Nat, i + h < ns.length → ns.getD i 0 ≤ ns.getD (i + h) 0
instance (ns : List Int) (h : Nat) : Decidable (inOrd ns h) :=
  decidable_of_iff (∀ i, i < ns.length - h → ns.getD i 0 ≤ ns.getD (i + h) 0) ⟨fun a i hi => a i (by omega), fun a i hi => a i (by omega)⟩
theorem atP1_getD (ns : List Int) (i : Nat) : atP1 ns (1 + (i : Int)) = ns.getD i 0 := by
  unfold atP1
  rw [show (1 + (i : Int) - 1).toNat = i by omega]
/-- what stands at the places of a chain behind the sorting -/
theorem sortIn_at {ns : List Int} {s : Nat} (hs : 0 < s) (hm : ns.length ≤ 40) {f k : Nat} (hf : f < s) (hk : f + k * s < ns.length) :
    (sortI ((gapCh ns.length s f).map (atP1 ns)))[k]? = some ((sortIn ns (gapFam ns.length s)).getD (f + k * s) 0) := by
  have hfm : f < ns.length := by omega
  have hkc := (cntG_lt hs hfm).mpr hk
  have ok := gapFam_ok (m := ns.length) hs hm
  have hmem : gapCh ns.length s f ∈ gapFam ns.length s := List.mem_map.mpr ⟨f, List.mem_range.mpr (by omega), rfl⟩
  have hch : (gapCh ns.length s f)[k]? = some (1 + (f : Int) + (k : Int) * s) := by
    unfold gapCh
    rw [List.getElem?_map, List.getElem?_range hkc]; rfl
  have hl : k < (sortI ((gapCh ns.length s f).map (atP1 ns))).length := by
    rw [len_sortI, List.length_map]
    exact (List.getElem?_eq_some_iff.mp hch).1
  have h : atP1 (sortIn ns (gapFam ns.length s)) _ = _ := (fold_in ns (fam := gapFam ns.length s) (t := ns) (fun p hp => ok.1 p hp) ok.2.1).2 _ hmem k _ _ hch (List.getElem?_eq_getElem hl)
  rw [List.getElem?_eq_getElem hl, ← h]
  congr 1
  have e : (1 + (f : Int) + (k : Int) * s) = 1 + ((f + k * s : Nat) : Int) := by push_cast; omega
  rw [e, atP1_getD]
theorem gap_keeps {ns : List Int} {s h : Nat} (hs : 0 < s) (hh : 0 < h) (hm : ns.length ≤ 40) (ho : inOrd ns h) : inOrd (sortIn ns (gapFam ns.length s)) h := by
  intro i hi
  rw [len_sortIn] at hi
  -- the two classes
  have e1 : i = i % s + i / s * s := by rw [Nat.mul_comm]; exact (Nat.mod_add_div i s).symm
  have e2 : i + h = (i + h) % s + (i + h) / s * s := by rw [Nat.mul_comm]; exact (Nat.mod_add_div (i + h) s).symm
  have f1 : i % s < s := Nat.mod_lt _ hs
  have f2 : (i + h) % s < s := Nat.mod_lt _ hs
  have hle : i / s ≤ (i + h) / s := Nat.div_le_div_right (by omega)
  generalize hf : i % s = f at *
  generalize hf' : (i + h) % s = f' at *
  generalize hr : i / s = r at *
  generalize hr' : (i + h) / s = r' at *
  obtain ⟨d, rfl⟩ : ∃ d, r' = r + d := ⟨r' - r, by omega⟩
  have hd : f + h = f' + d * s := by rw [Nat.add_mul] at e2; omega
  have a := sortIn_at hs hm f1 (k := r) (by omega)
  have b := sortIn_at hs hm f2 (k := r + d) (by omega)
  rw [← e1] at a
  rw [← e2] at b
  have hfm : f < ns.length := by omega
  have hfm' : f' < ns.length := by omega
  -- how many of the second class stand behind the first d
  have hq : ∀ k, k < cntG ns.length s f' - d ↔ f + k * s + h < ns.length := fun k => by
    have := cntG_lt (k := k + d) hs hfm'
    rw [Nat.add_mul] at this
    omega
  have hq1 : cntG ns.length s f' - d ≤ cntG ns.length s f := by
    refine Nat.le_of_not_lt fun z => ?_
    have := (hq (cntG ns.length s f)).mp z
    have n := (cntG_lt (k := cntG ns.length s f) hs hfm).mpr (by omega)
    omega
  have hrq : r < cntG ns.length s f' - d := (hq r).mpr (by omega)
  generalize hQ : cntG ns.length s f' - d = q at *
  obtain ⟨x2, hx2⟩ : ∃ x2, cntG ns.length s f = q + x2 := ⟨cntG ns.length s f - q, by omega⟩
  have hx3 : cntG ns.length s f' = d + q := by omega
  have sp : ∀ (u v : Nat) (g : Nat → Int), (List.range (u + v)).map g = (List.range u).map g ++ (List.range v).map fun k => g (u + k) := fun u v g => by
    rw [List.range_add, List.map_append, List.map_map]; rfl
  have hA : (gapCh ns.length s f).map (atP1 ns) = (List.range q).map (fun k => ns.getD (f + k * s) 0) ++ (List.range x2).map fun k => ns.getD (f + (q + k) * s) 0 := by
    unfold gapCh
    rw [List.map_map, hx2, ← sp q x2 fun k => ns.getD (f + k * s) 0]
    refine List.map_congr_left fun k _ => ?_
    show atP1 ns (1 + (f : Int) + (k : Int) * s) = _
    rw [show (1 + (f : Int) + (k : Int) * s) = 1 + ((f + k * s : Nat) : Int) by push_cast; omega, atP1_getD]
  have hB : (gapCh ns.length s f').map (atP1 ns) = (List.range d).map (fun k => ns.getD (f' + k * s) 0) ++ (List.range q).map fun k => ns.getD (f' + (d + k) * s) 0 := by
    unfold gapCh
    rw [List.map_map, hx3, ← sp d q fun k => ns.getD (f' + k * s) 0]
    refine List.map_congr_left fun k _ => ?_
    show atP1 ns (1 + (f' : Int) + (k : Int) * s) = _
    rw [show (1 + (f' : Int) + (k : Int) * s) = 1 + ((f' + k * s : Nat) : Int) by push_cast; omega, atP1_getD]
  rw [hA] at a
  rw [hB] at b
  have b' : (sortI ((List.range d).map (fun k => ns.getD (f' + k * s) 0) ++ (List.range q).map fun k => ns.getD (f' + (d + k) * s) 0))[r + ((List.range d).map (fun k => ns.getD (f' + k * s) 0)).length]? = some ((sortIn ns (gapFam ns.length s)).getD (i + h) 0) := by
    rw [List.length_map, List.length_range]; exact b
  refine class_le (r := r) (by rw [List.length_map, List.length_map]) (fun k x y h1 h2 => ?_) (by rw [List.length_map, List.length_range]; exact hrq) a b'
  have hk : k < q := by have := (List.getElem?_eq_some_iff.mp h1).1; simpa using this
  rw [List.getElem?_map, List.getElem?_range hk] at h1 h2
  cases h1; cases h2
  have := ho (f + k * s) ((hq k).mp hk)
  show ns.getD (f + k * s) 0 ≤ ns.getD (f' + (d + k) * s) 0
  rw [show f' + (d + k) * s = f + k * s + h by rw [Nat.add_mul]; omega]
  exact this
/-- behind the sorting it is in order at its gap -/
theorem gap_does {ns : List Int} {s : Nat} (hs : 0 < s) (hm : ns.length ≤ 40) : inOrd (sortIn ns (gapFam ns.length s)) s := by
  intro i hi
  rw [len_sortIn] at hi
  have e1 : i = i % s + i / s * s := by rw [Nat.mul_comm]; exact (Nat.mod_add_div i s).symm
  have f1 : i % s < s := Nat.mod_lt _ hs
  generalize hf : i % s = f at *
  generalize hr : i / s = r at *
  have a := sortIn_at hs hm f1 (k := r) (by omega)
  have b := sortIn_at hs hm f1 (k := r + 1) (by rw [Nat.add_mul]; omega)
  rw [← e1] at a
  rw [show f + (r + 1) * s = i + s by rw [Nat.add_mul]; omega] at b
  obtain ⟨h1, e1⟩ := List.getElem?_eq_some_iff.mp a
  obtain ⟨h2, e2⟩ := List.getElem?_eq_some_iff.mp b
  rw [← e1, ← e2]
  exact List.pairwise_iff_getElem.mp (srt_sortI _) r (r + 1) h1 h2 (by omega)
/-- what is in order at a gap is not changed -/
theorem gap_stays {ns : List Int} {s : Nat} (hs : 0 < s) (hm : ns.length ≤ 40) (ho : inOrd ns s) : sortIn ns (gapFam ns.length s) = ns := by
  refine isS_self (gapFam_ok hs hm) ?_
  unfold isS
  rw [List.all_eq_true]
  intro pq hpq
  obtain ⟨ch, hc, hz⟩ := List.mem_flatMap.mp hpq
  obtain ⟨f, hf, rfl⟩ := List.mem_map.mp hc
  have hf := List.mem_range.mp hf
  obtain ⟨k, hk⟩ := List.getElem?_of_mem hz
  obtain ⟨h1, h2⟩ := List.getElem?_zip_eq_some.mp hk
  rw [List.getElem?_drop] at h2
  unfold gapCh at h1 h2
  have hk1 : 1 + k < cntG ns.length s f := by have := (List.getElem?_eq_some_iff.mp h2).1; simpa using this
  have hk0 : k < cntG ns.length s f := by omega
  rw [List.getElem?_map, List.getElem?_range hk0] at h1
  rw [List.getElem?_map, List.getElem?_range hk1] at h2
  have e1 : pq.1 = 1 + ((f + k * s : Nat) : Int) := by
    have : pq.1 = 1 + (f : Int) + (k : Int) * s := (Option.some.inj (show some (1 + (f : Int) + (k : Int) * s) = some pq.1 from h1)).symm
    rw [this]; push_cast; omega
  have e2 : pq.2 = 1 + ((f + k * s + s : Nat) : Int) := by
    have : some (1 + (f : Int) + ((1 + k : Nat) : Int) * s) = some pq.2 := h2
    have : pq.2 = 1 + (f : Int) + ((1 + k : Nat) : Int) * s := (Option.some.inj this).symm
    rw [this, show (((1 + k : Nat) : Int)) * s = (s : Int) + (k : Int) * s by push_cast; rw [Int.add_mul, Int.one_mul]]
    push_cast; omega
  rw [e1, e2, atP1_getD, atP1_getD, decide_eq_true_eq]
  refine ho _ ?_
  have := (cntG_lt (k := 1 + k) hs (by omega : f < ns.length)).mp hk1
  rw [Nat.add_mul] at this; omega
theorem inOrd_add {ns : List Int} {a b : Nat} (h : inOrd ns a) (k : inOrd ns b) : inOrd ns (a + b) := fun i hi => by
  have h1 := h i (by omega)
  have h2 := k (i + a) (by omega)
  rw [show i + (a + b) = i + a + b by omega]
  exact Int.le_trans h1 h2
/-! ### sums of gaps -/
/-- one of some gaps, taken as often as one likes, at least once -/
inductive IsSum (steps : List Int) : Int → Prop where
  | one {s : Int} : s ∈ steps → IsSum steps s
  | more {n s : Int} : IsSum steps n → s ∈ steps → IsSum steps (n + s)
theorem IsSum.pos {steps : List Int} (h : ∀ s, s ∈ steps → 1 ≤ s) {n : Int} (k : IsSum steps n) : 1 ≤ n := by
  induction k with
  | one m => exact h _ m
  | more _ m ih => have := h _ m; omega
def sumB (steps told : List Int) (x : Int) : Bool := steps.any fun s => decide (x = s) || told.contains (x - s)
def sumS (steps told : List Int) (x : Int) : List Int := if sumB steps told x = true then told ++ [x] else told
def nums (m : Nat) : List Int := (List.range (m - 1)).map fun (k : Nat) => 1 + (k : Int)
def sumsL (m : Nat) (steps : List Int) : List Int := (nums m).foldl (sumS steps) []
theorem sums_inv {steps : List Int} (h1 : ∀ s, s ∈ steps → 1 ≤ s) : ∀ k : Nat, ∀ x, x ∈ ((List.range k).map fun (j : Nat) => 1 + (j : Int)).foldl (sumS steps) [] ↔ (1 ≤ x ∧ x ≤ (k : Int) ∧ IsSum steps x) := by
  intro k
  induction k with
  | zero => intro x; simp; omega
  | succ k ih =>
    intro x
    rw [List.range_succ, List.map_append, List.foldl_append]
    show x ∈ sumS steps _ (1 + (k : Int)) ↔ _
    generalize ht : ((List.range k).map fun (j : Nat) => 1 + (j : Int)).foldl (sumS steps) [] = told at ih ⊢
    have key : sumB steps told (1 + (k : Int)) = true ↔ IsSum steps (1 + (k : Int)) := by
      unfold sumB
      rw [List.any_eq_true]
      constructor
      · rintro ⟨s, hs, h⟩
        rw [Bool.or_eq_true, decide_eq_true_eq, List.contains_eq_mem, decide_eq_true_eq] at h
        rcases h with h | h
        · rw [h]; exact .one hs
        · have := ((ih _).mp h).2.2
          have e : (1 + (k : Int)) = (1 + (k : Int) - s) + s := by omega
          rw [e]; exact .more this hs
      · intro h
        generalize hz : 1 + (k : Int) = z at h
        cases h with
        | one hs => exact ⟨_, hs, by simp⟩
        | @more n s hn hs =>
          have p1 := hn.pos h1
          have p2 := h1 s hs
          refine ⟨s, hs, ?_⟩
          rw [Bool.or_eq_true]
          right
          rw [List.contains_eq_mem, decide_eq_true_eq]
          exact (ih _).mpr ⟨by omega, by omega, by rw [show (n + s - s) = n by omega]; exact hn⟩
    unfold sumS
    by_cases hb : sumB steps told (1 + (k : Int)) = true
    · rw [if_pos hb, List.mem_append, ih, List.mem_singleton]
      have hs := key.mp hb
      constructor
      · rintro (⟨a, b, c⟩ | rfl)
        · exact ⟨a, by omega, c⟩
        · exact ⟨by omega, by omega, hs⟩
      · rintro ⟨a, b, c⟩
        by_cases hx : x = 1 + (k : Int)
        · exact .inr hx
        · exact .inl ⟨a, by omega, c⟩
    · rw [if_neg hb, ih]
      constructor
      · rintro ⟨a, b, c⟩; exact ⟨a, by omega, c⟩
      · rintro ⟨a, b, c⟩
        refine ⟨a, ?_, c⟩
        by_cases hx : x = 1 + (k : Int)
        · subst hx; exact absurd (key.mpr c) hb
        · omega
theorem mem_sumsL {steps : List Int} (h1 : ∀ s, s ∈ steps → 1 ≤ s) {m : Nat} {x : Int} : x ∈ sumsL m steps ↔ (1 ≤ x ∧ x < (m : Int) ∧ IsSum steps x) := by
  unfold sumsL nums
  rw [sums_inv h1]
  constructor
  · rintro ⟨a, b, c⟩; exact ⟨a, by omega, c⟩
  · rintro ⟨a, b, c⟩; exact ⟨a, by omega, c⟩
/-- two ascending lists of the same numbers -/
theorem asc_ext : ∀ {a b : List Int}, a.Pairwise (· < ·) → b.Pairwise (· < ·) → (∀ x, x ∈ a ↔ x ∈ b) → a = b
  | [], [], _, _, _ => rfl
  | [], y :: b, _, _, h => by have := (h y).mpr (by simp); simp at this
  | x :: a, [], _, _, h => by have := (h x).mp (by simp); simp at this
  | x :: a, y :: b, ha, hb, h => by
    have ha' := List.pairwise_cons.mp ha
    have hb' := List.pairwise_cons.mp hb
    have e : x = y := by
      rcases List.mem_cons.mp ((h x).mp (by simp)) with e | e
      · exact e
      · rcases List.mem_cons.mp ((h y).mpr (by simp)) with k | k
        · exact k.symm
        · have h1 := hb'.1 x e
          have h2 := ha'.1 y k
          omega
    subst e
    congr 1
    refine asc_ext ha'.2 hb'.2 fun z => ?_
    have := h z
    simp only [List.mem_cons] at this
    constructor
    · intro hz
      rcases this.mp (.inr hz) with k | k
      · subst k; have := ha'.1 z hz; omega
      · exact k
    · intro hz
      rcases this.mpr (.inr hz) with k | k
      · subst k; have := hb'.1 z hz; omega
      · exact k
theorem asc_nums (m : Nat) : (nums m).Pairwise (· < ·) :=
  List.pairwise_map.mpr (List.Pairwise.imp (fun {a b} h => by omega) List.pairwise_lt_range)
theorem mem_nums {m : Nat} {x : Int} : x ∈ nums m ↔ 1 ≤ x ∧ x < (m : Int) := by
  unfold nums
  rw [List.mem_map]
  constructor
  · rintro ⟨k, hk, rfl⟩
    have := List.mem_range.mp hk
    omega
  · rintro ⟨a, b⟩
    exact ⟨(x - 1).toNat, List.mem_range.mpr (by omega), by omega⟩
theorem asc_sums (steps : List Int) : ∀ k : Nat, (((List.range k).map fun (j : Nat) => 1 + (j : Int)).foldl (sumS steps) []).Pairwise (· < ·) ∧ ∀ x, x ∈ ((List.range k).map fun (j : Nat) => 1 + (j : Int)).foldl (sumS steps) [] → x ≤ (k : Int) := by
  intro k
  induction k with
  | zero => exact ⟨List.Pairwise.nil, fun x h => by simp at h⟩
  | succ k ih =>
    rw [List.range_succ, List.map_append, List.foldl_append]
    show (sumS steps _ (1 + (k : Int))).Pairwise (· < ·) ∧ ∀ x, x ∈ sumS steps _ (1 + (k : Int)) → _
    generalize ((List.range k).map fun (j : Nat) => 1 + (j : Int)).foldl (sumS steps) [] = told at ih ⊢
    unfold sumS
    split
    · refine ⟨List.pairwise_append.mpr ⟨ih.1, by simp, fun a ha b hb => ?_⟩, fun x hx => ?_⟩
      · rw [List.mem_singleton.mp hb]; have := ih.2 a ha; omega
      · rcases List.mem_append.mp hx with hx | hx
        · have := ih.2 x hx; omega
        · rw [List.mem_singleton.mp hx]; omega
    · exact ⟨ih.1, fun x hx => by have := ih.2 x hx; omega⟩
theorem sumsL_asc (m : Nat) (steps : List Int) : (sumsL m steps).Pairwise (· < ·) := (asc_sums steps (m - 1)).1
theorem len_sumsL (m : Nat) (steps : List Int) : (sumsL m steps).length ≤ m := by
  have : ∀ (l t : List Int), (l.foldl (sumS steps) t).length ≤ t.length + l.length := by
    intro l
    induction l with
    | nil => intro t; simp
    | cons x l ih =>
      intro t
      have := ih (sumS steps t x)
      have h2 : (sumS steps t x).length ≤ t.length + 1 := by unfold sumS; split <;> simp
      show ((l.foldl (sumS steps) (sumS steps t x))).length ≤ _
      rw [List.length_cons]; omega
  have := this (nums m) []
  unfold sumsL
  have e : (nums m).length = m - 1 := by simp [nums]
  rw [e] at this
  simp at this
  omega
/-- what is in order at the gaps is so at their sums -/
theorem inOrd_sum {ns steps : List Int} (h1 : ∀ s, s ∈ steps → 1 ≤ s) (h : ∀ s, s ∈ steps → inOrd ns s.toNat) {n : Int} (k : IsSum steps n) : inOrd ns n.toNat := by
  induction k with
  | one m => exact h _ m
  | @more n s hn m ih =>
    have p1 := hn.pos h1
    have p2 := h1 s m
    have := inOrd_add ih (h s m)
    rwa [show (n + s).toNat = n.toNat + s.toNat by omega]
/-- a filling that is in order at the gaps and at no other difference: 1 where what is left is no sum -/
def worst (m : Nat) (steps : List Int) : List Int := ((List.range m).map fun (k : Nat) => if ((k : Int) = 0 ∨ (k : Int) ∈ sumsL m steps) then (0 : Int) else 1).reverse
theorem worst_at {m : Nat} {steps : List Int} {i : Nat} (hi : i < m) : (worst m steps).getD i 0 = if (((m - 1 - i : Nat) : Int) = 0 ∨ ((m - 1 - i : Nat) : Int) ∈ sumsL m steps) then 0 else 1 := by
  unfold worst
  rw [List.getD_eq_getElem?_getD, List.getElem?_reverse (by simpa using hi), List.length_map, List.length_range, List.getElem?_map, List.getElem?_range (by omega)]
  rfl
theorem worst_len (m : Nat) (steps : List Int) : (worst m steps).length = m := by simp [worst]
theorem worst_ord {m : Nat} {steps : List Int} (h1 : ∀ s, s ∈ steps → 1 ≤ s) {s : Int} (hs : s ∈ steps) : inOrd (worst m steps) s.toNat := by
  intro i hi
  rw [worst_len] at hi
  have p := h1 s hs
  rw [worst_at (by omega), worst_at (by omega)]
  by_cases h : ((m - 1 - (i + s.toNat) : Nat) : Int) = 0 ∨ ((m - 1 - (i + s.toNat) : Nat) : Int) ∈ sumsL m steps
  · have e : ((m - 1 - i : Nat) : Int) = ((m - 1 - (i + s.toNat) : Nat) : Int) + s := by omega
    have : ((m - 1 - i : Nat) : Int) ∈ sumsL m steps := by
      rw [mem_sumsL h1]
      refine ⟨by omega, by omega, ?_⟩
      rcases h with h | h
      · rw [e, h, Int.zero_add]; exact .one hs
      · rw [e]; exact .more ((mem_sumsL h1).mp h).2.2 hs
    rw [if_pos (.inr this), if_pos h]; exact Int.le_refl _
  · rw [if_neg h]; split <;> decide
theorem worst_not {m : Nat} {steps : List Int} {x : Int} (h1 : 1 ≤ x) (h2 : x < (m : Int)) (hx : x ∉ sumsL m steps) : ¬ inOrd (worst m steps) x.toNat := by
  intro h
  have := h (m - 1 - x.toNat) (by rw [worst_len]; omega)
  rw [worst_at (by omega), worst_at (by omega)] at this
  rw [show m - 1 - (m - 1 - x.toNat) = x.toNat by omega, show m - 1 - (m - 1 - x.toNat + x.toNat) = 0 by omega] at this
  have e : ((x.toNat : Nat) : Int) = x := by omega
  rw [e, if_neg (fun z => z.elim (fun z => by omega) hx), if_pos (.inl rfl)] at this
  omega
end KS
set_option Elab.async false
set_option linter.all false
set_option maxRecDepth 100000
namespace KS
open PySem L2
/-! ### gaps: what is looked at, families of gaps, sums, differences -/
theorem g_num (n : Nat) (a l h : Int) (h1 : l ≤ a) (h2 : a ≤ h) : runI tblL lawFuel (n + 2) 1 [.int a, .int l, .int h] = .ok (.non, .non) := Ok.eq (by
  rw [ok_run tb1 (n + 1) _ rfl]
  simp only [ir1, List.map_cons, List.map_nil, List.replicate, List.cons_append, List.nil_append]
  simp only [↓vcA, vcB, vcIo, true_and, and_true, Bool.and_self, List.contains_nil, List.contains_cons, Nat.reduceBEq, Bool.or_false, Bool.false_or, if_true, Bool.false_eq_true, if_false, List.map_cons, List.map_nil, wipeE, List.set_cons_zero, List.set_cons_succ, List.cons_append, List.nil_append]
  simp only [↓vcA, vcB, vcIo, true_and, and_true, Bool.and_self, List.contains_nil, List.contains_cons, Nat.reduceBEq, Bool.or_false, Bool.false_or, if_true, Bool.false_eq_true, if_false, List.map_cons, List.map_nil, wipeE, List.set_cons_zero, List.set_cons_succ, List.cons_append, List.nil_append, f_whole]
  exact ⟨fun _ => ⟨fun _ => trivial, fun z => absurd h2 z⟩, fun z => absurd h1 z⟩)
theorem g_places (n : Nat) (a : Int) (h1 : 1 ≤ a) (h2 : a ≤ 40) : runI tblL lawFuel (n + 3) 2 [.int a] = .ok (.non, .non) := Ok.eq (by
  rw [ok_run tb2 (n + 2) _ rfl]
  simp only [ir2, List.map_cons, List.map_nil, List.replicate, List.cons_append, List.nil_append]
  simp only [↓vcA, vcB, vcIo, true_and, and_true, Bool.and_self, List.contains_nil, List.contains_cons, Nat.reduceBEq, Bool.or_false, Bool.false_or, if_true, Bool.false_eq_true, if_false, List.map_cons, List.map_nil, wipeE, List.set_cons_zero, List.set_cons_succ, List.cons_append, List.nil_append]
  simp only [↓vcA, vcB, vcIo, true_and, and_true, Bool.and_self, List.contains_nil, List.contains_cons, Nat.reduceBEq, Bool.or_false, Bool.false_or, if_true, Bool.false_eq_true, if_false, List.map_cons, List.map_nil, wipeE, List.set_cons_zero, List.set_cons_succ, List.cons_append, List.nil_append, g_num n a 1 40 h1 h2])
theorem g_gap (n : Nat) (a m : Int) (h1 : 1 ≤ a) (h2 : a ≤ m) : runI tblL lawFuel (n + 3) 4 [.int a, .int m] = .ok (.non, .non) := Ok.eq (by
  rw [ok_run tb4 (n + 2) _ rfl]
  simp only [ir4, List.map_cons, List.map_nil, List.replicate, List.cons_append, List.nil_append]
  simp only [↓vcA, vcB, vcIo, true_and, and_true, Bool.and_self, List.contains_nil, List.contains_cons, Nat.reduceBEq, Bool.or_false, Bool.false_or, if_true, Bool.false_eq_true, if_false, List.map_cons, List.map_nil, wipeE, List.set_cons_zero, List.set_cons_succ, List.cons_append, List.nil_append]
  simp only [↓vcA, vcB, vcIo, true_and, and_true, Bool.and_self, List.contains_nil, List.contains_cons, Nat.reduceBEq, Bool.or_false, Bool.false_or, if_true, Bool.false_eq_true, if_false, List.map_cons, List.map_nil, wipeE, List.set_cons_zero, List.set_cons_succ, List.cons_append, List.nil_append, g_num n a 1 m h1 h2])
theorem g_gaps (n : Nat) (m : Int) (ss : List Int) (h : ∀ s, s ∈ ss → 1 ≤ s ∧ s ≤ m) : runI tblL lawFuel (n + 2) 5 [il false ss, .int m] = .ok (.non, .non) := Ok.eq (by
  rw [ok_run tb5 (n + 1) _ rfl]
  simp only [ir5, List.map_cons, List.map_nil, List.replicate, List.cons_append, List.nil_append]
  simp only [↓vcA, vcB, vcIo, true_and, and_true, Bool.and_self, List.contains_nil, List.contains_cons, Nat.reduceBEq, Bool.or_false, Bool.false_or, if_true, Bool.false_eq_true, if_false, List.map_cons, List.map_nil, wipeE, List.set_cons_zero, List.set_cons_succ, List.cons_append, List.nil_append]
  refine ok_forL (fun r env => ∃ x, env = [some (il false ss), some (.int m), x]) ⟨_, rfl⟩ (fun s r env ⟨d, hd⟩ ⟨x, he⟩ => ?_) fun env ⟨x, he⟩ => ?_
  · subst he
    obtain ⟨a, b⟩ := h s (by rw [← hd]; simp)
    simp only [↓vcA, vcB, vcIo, true_and, and_true, Bool.and_self, List.contains_nil, List.contains_cons, Nat.reduceBEq, Bool.or_false, Bool.false_or, if_true, Bool.false_eq_true, if_false, List.map_cons, List.map_nil, wipeE, List.set_cons_zero, List.set_cons_succ, List.cons_append, List.nil_append, ↓vcT, f_whole]
    exact ⟨fun _ => ⟨fun _ => ⟨_, rfl⟩, fun z => absurd b z⟩, fun z => absurd a z⟩
  · subst he
    simp only [↓vcA, vcB, vcIo, true_and, and_true, Bool.and_self, List.contains_nil, List.contains_cons, Nat.reduceBEq, Bool.or_false, Bool.false_or, if_true, Bool.false_eq_true, if_false, List.map_cons, List.map_nil, wipeE, List.set_cons_zero, List.set_cons_succ, List.cons_append, List.nil_append])
theorem min_i (m s : Nat) : (if (m : Int) < (s : Int) then (m : Int) else (s : Int)) = ((min s m : Nat) : Int) := by
  split <;> omega
theorem rangeN_cnt {m s f : Nat} (hs : 0 < s) (hf : f < m) : rangeN (1 + (f : Int)) ((m : Int) + 1) (s : Int) = cntG m s f := by
  unfold rangeN cntG
  rw [if_pos (by omega), if_pos (by omega)]
  have e : ((m : Int) + 1 - (1 + (f : Int)) - 1) / (s : Int) = (((m - f - 1) / s : Nat) : Int) := by
    rw [Int.natCast_ediv]
    congr 1
    omega
  rw [e]
  have e2 : (m - f + s - 1) / s = (m - f - 1) / s + 1 := by
    rw [show m - f + s - 1 = (m - f - 1) + s by omega, Nat.add_div_right _ hs]
  rw [e2]
  generalize (m - f - 1) / s = q
  omega
theorem fl_map {β : Type} (g : β → List Int) (l : List β) : D.lst true (l.map fun x => il true (g x)) = fl true (l.map g) := by
  unfold fl
  rw [List.map_map]; rfl
theorem contains_cons' (x : Int) (t : List Int) (y : Int) : (x :: t).contains y = (decide (y = x) || t.contains y) := by
  rw [List.contains_cons, beq_dec]
theorem any_bl (l : List Bool) : prim .any [.lst true (l.map .bl)] = .ok (.bl (l.any id)) := by
  have : boolL (l.map .bl) = some l := by
    induction l with
    | nil => rfl
    | cons b l ih => simp [boolL, ih]
  show pLB (fun ns => .bl (ns.any id)) [.lst true (l.map .bl)] = _
  simp only [pLB, this]
theorem vany_bl (l : List Bool) (ln : List Nat) (env : Env) (Q : D × Env → Prop) : opK .any ln [.lst true (l.map .bl)] env Q = Q (.bl (l.any id), env) := by
  unfold opK opR; rw [any_bl]; rfl
theorem g_sumsin (n m : Nat) (ss : List Int) (h1 : 1 ≤ m) (h40 : m ≤ 40) (hs : ∀ s, s ∈ ss → 1 ≤ s) (hl : ss.length ≤ 1000) : runI tblL lawFuel (n + 1) 6 [.int m, il false ss] = .ok (il true (sumsL m ss), .non) := Ok.eq (by
  rw [ok_run tb6 n _ rfl]
  simp only [ir6, List.map_cons, List.map_nil, List.replicate, List.cons_append, List.nil_append]
  simp only [↓vcA, vcB, vcIo, true_and, and_true, Bool.and_self, List.contains_nil, List.contains_cons, Nat.reduceBEq, Bool.or_false, Bool.false_or, if_true, Bool.false_eq_true, if_false, List.map_cons, List.map_nil, wipeE, List.set_cons_zero, List.set_cons_succ, List.cons_append, List.nil_append]
  have hline : line = 16777216 := rfl
  refine ⟨by omega, ?_⟩
  have e0 : ((List.range ((m : Int) - 1).toNat).map fun (k : Nat) => D.int (1 + (k : Int))) = (nums m).map .int := by
    unfold nums
    rw [List.map_map, show ((m : Int) - 1).toNat = m - 1 by omega]; rfl
  rw [e0]
  refine ok_forL (fun r env => ∃ (t : List Int) (x y : Option D), env = [some (.int m), some (il false ss), some (kd true (0 :: t)), x, y] ∧ r.foldl (sumS ss) t = sumsL m ss ∧ (∀ z, z ∈ t → 1 ≤ z ∧ ∀ y, y ∈ r → z < y) ∧ r.Pairwise (· < ·) ∧ t.length + r.length ≤ 40 ∧ ∀ y, y ∈ r → 1 ≤ y)
    ⟨[], none, none, rfl, rfl, fun z h => by simp at h, asc_nums m, by simp [nums]; omega, fun y hy => (mem_nums.mp hy).1⟩ (fun x r env _ h => ?_) fun env h => ?_
  · obtain ⟨t, x3, x4, he, hf, hp, ha, ht, h1r⟩ := h
    subst he
    have ha' := List.pairwise_cons.mp ha
    have hx1 := h1r x (by simp)
    have hxt : x ∉ t := fun z => by have := (hp x z).2 x (by simp); omega
    simp only [List.length_cons] at ht
    simp only [↓vcA, vcB, vcIo, true_and, and_true, Bool.and_self, List.contains_nil, List.contains_cons, Nat.reduceBEq, Bool.or_false, Bool.false_or, if_true, Bool.false_eq_true, if_false, List.map_cons, List.map_nil, wipeE, List.set_cons_zero, List.set_cons_succ, List.cons_append, List.nil_append, ↓vcT]
    refine ok_compW (fun s => .bl (x - s == 0 || t.contains (x - s))) (fun s hs => ?_) fun e he => ?_
    · simp only [↓vcA, vcB, vcIo, true_and, and_true, Bool.and_self, List.contains_nil, List.contains_cons, Nat.reduceBEq, Bool.or_false, Bool.false_or, if_true, Bool.false_eq_true, if_false, List.map_cons, List.map_nil, wipeE, List.set_cons_zero, List.set_cons_succ, List.cons_append, List.nil_append, ↓vcT]
      cases (x - s == 0 || t.contains (x - s)) <;> simp
    · simp only [↓vcA, vcB, vcIo, true_and, and_true, Bool.and_self, List.contains_nil, List.contains_cons, Nat.reduceBEq, Bool.or_false, Bool.false_or, if_true, Bool.false_eq_true, if_false, List.map_cons, List.map_nil, wipeE, List.set_cons_zero, List.set_cons_succ, List.cons_append, List.nil_append] at he
      rw [he, List.nil_append, show ss.map (fun s => D.bl (x - s == 0 || t.contains (x - s))) = (ss.map fun s => (x - s == 0 || t.contains (x - s))).map .bl by rw [List.map_map]; rfl]
      refine ⟨by rw [List.length_map]; omega, ?_⟩
      have hany : (ss.map fun s => (x - s == 0 || t.contains (x - s))).any id = sumB ss t x := by
        unfold sumB
        rw [List.any_map]
        congr 1
        funext s
        show (x - s == 0 || t.contains (x - s)) = _
        congr 1
        rw [beq_dec, decide_eq_decide]; omega
      simp only [↓vcA, vcB, vcIo, true_and, and_true, Bool.and_self, List.contains_nil, List.contains_cons, Nat.reduceBEq, Bool.or_false, Bool.false_or, if_true, Bool.false_eq_true, if_false, List.map_cons, List.map_nil, wipeE, List.set_cons_zero, List.set_cons_succ, List.cons_append, List.nil_append, vany_bl]
      rw [hany, brK_b]
      have hnc : (x == 0 || t.contains x) = false := by
        rw [Bool.or_eq_false_iff]
        exact ⟨by rw [beq_dec, decide_eq_false (by omega)], by rw [List.contains_eq_mem, decide_eq_false hxt]⟩
      refine ⟨fun hb => ⟨by simp; omega, ?_⟩, fun hb => ?_⟩
      · have hf' : r.foldl (sumS ss) (t ++ [x]) = sumsL m ss := by
          rw [← hf]
          show _ = r.foldl (sumS ss) (sumS ss t x)
          unfold sumS; rw [hb]; rfl
        refine ⟨t ++ [x], some (.int x), none, ?_, hf', fun z hz => ?_, ha'.2, by rw [List.length_append, List.length_singleton]; omega, fun y hy => h1r y (by simp [hy])⟩
        · rw [hnc]; rfl
        · rcases List.mem_append.mp hz with hz | hz
          · exact ⟨(hp z hz).1, fun y hy => (hp z hz).2 y (by simp [hy])⟩
          · rw [List.mem_singleton.mp hz]; exact ⟨hx1, fun y hy => ha'.1 y hy⟩
      · have hf' : r.foldl (sumS ss) t = sumsL m ss := by
          rw [← hf]
          show _ = r.foldl (sumS ss) (sumS ss t x)
          unfold sumS; rw [hb]; rfl
        exact ⟨t, _, _, rfl, hf', fun z hz => ⟨(hp z hz).1, fun y hy => (hp z hz).2 y (by simp [hy])⟩, ha'.2, by omega, fun y hy => h1r y (by simp [hy])⟩
  · obtain ⟨t, x3, x4, he, hf, hp, ha, ht, h1r⟩ := h
    subst he
    simp only [↓vcA, vcB, vcIo, true_and, and_true, Bool.and_self, List.contains_nil, List.contains_cons, Nat.reduceBEq, Bool.or_false, Bool.false_or, if_true, Bool.false_eq_true, if_false, List.map_cons, List.map_nil, wipeE, List.set_cons_zero, List.set_cons_succ, List.cons_append, List.nil_append]
    simp only [frzAt, List.getElem?_cons_succ, List.getElem?_cons_zero, List.set_cons_succ, List.set_cons_zero, frz_kd]
    rw [show D.int 0 :: t.map .int = ((0 :: t) : List Int).map .int from rfl]
    refine ok_compFW (fun z => decide (0 < z)) .int (fun z hz => ?_) fun e he => ?_
    · simp only [↓vcA, vcB, vcIo, true_and, and_true, Bool.and_self, List.contains_nil, List.contains_cons, Nat.reduceBEq, Bool.or_false, Bool.false_or, if_true, Bool.false_eq_true, if_false, List.map_cons, List.map_nil, wipeE, List.set_cons_zero, List.set_cons_succ, List.cons_append, List.nil_append, ↓vcT]
      by_cases h0 : 0 < z
      · simp [h0]
      · simp [h0]
    · simp only [↓vcA, vcB, vcIo, true_and, and_true, Bool.and_self, List.contains_nil, List.contains_cons, Nat.reduceBEq, Bool.or_false, Bool.false_or, if_true, Bool.false_eq_true, if_false, List.map_cons, List.map_nil, wipeE, List.set_cons_zero, List.set_cons_succ, List.cons_append, List.nil_append] at he
      rw [he, List.nil_append]
      have ef : ((0 :: t) : List Int).filter (fun z => decide (0 < z)) = t := by
        rw [List.filter_cons_of_neg (by simp), List.filter_eq_self]
        intro z hz
        have := (hp z hz).1
        simp; omega
      rw [ef]
      have hft : t = sumsL m ss := hf
      simp only [↓vcA, vcB, vcIo, true_and, and_true, Bool.and_self, List.contains_nil, List.contains_cons, Nat.reduceBEq, Bool.or_false, Bool.false_or, if_true, Bool.false_eq_true, if_false, List.map_cons, List.map_nil, wipeE, List.set_cons_zero, List.set_cons_succ, List.cons_append, List.nil_append]
      rw [← hft]
      exact ⟨by simp; omega, rfl⟩)
/-! the differences at which a filling is in order -/
def gapsL (ns : List Int) : List Int := (nums ns.length).filter fun g => decide (inOrd ns g.toNat)
end KS
set_option Elab.async false
set_option linter.all false
set_option maxRecDepth 100000
namespace KS
open PySem L2
theorem l_sorted (n : Nat) (ns : List Int) (fam : List (List Int)) (h : okF ns.length fam) : runI tblL lawFuel (n + 1) 17 [il false ns, fl false fam] = .ok (il true (sortIn ns fam), .non) := Ok.eq (by
  rw [ok_run tb17 n _ rfl]
  simp only [ir17, List.map_cons, List.map_nil, List.replicate, List.cons_append, List.nil_append]
  simp only [↓vcA, vcB, vcIo, true_and, and_true, Bool.and_self, List.contains_nil, List.contains_cons, Nat.reduceBEq, Bool.or_false, Bool.false_or, if_true, Bool.false_eq_true, if_false, List.map_cons, List.map_nil, wipeE, List.set_cons_zero, List.set_cons_succ, List.cons_append, List.nil_append]
  refine ok_forL_st (σ := List Int) (sortC ns) ns (fun t env => ∃ x y z w, env = [some (il false ns), some (fl false fam), some (il true t), x, y, z, w] ∧ t.length = ns.length) ⟨_, _, _, _, rfl, rfl⟩ (fun ch t env hc ⟨x, y, z, w, he, ht⟩ => ?_) fun env ⟨x, y, z, w, he, ht⟩ => ?_
  · subst he
    obtain ⟨hr, hl⟩ := h ch hc
    simp only [↓vcA, vcB, vcIo, true_and, and_true, Bool.and_self, List.contains_nil, List.contains_cons, Nat.reduceBEq, Bool.or_false, Bool.false_or, if_true, Bool.false_eq_true, if_false, List.map_cons, List.map_nil, wipeE, List.set_cons_zero, List.set_cons_succ, List.cons_append, List.nil_append, ↓vcT]
    refine ok_compW (fun p => .int (atP1 ns p)) (fun p hp => ?_) fun e he => ?_
    · obtain ⟨h1, h2⟩ := ix1_il (hr p hp)
      simp only [↓vcA, vcB, vcIo, true_and, and_true, Bool.and_self, List.contains_nil, List.contains_cons, Nat.reduceBEq, Bool.or_false, Bool.false_or, if_true, Bool.false_eq_true, if_false, List.map_cons, List.map_nil, wipeE, List.set_cons_zero, List.set_cons_succ, List.cons_append, List.nil_append, ↓vcT, h1, h2]
    · simp only [↓vcA, vcB, vcIo, true_and, and_true, Bool.and_self, List.contains_nil, List.contains_cons, Nat.reduceBEq, Bool.or_false, Bool.false_or, if_true, Bool.false_eq_true, if_false, List.map_cons, List.map_nil, wipeE, List.set_cons_zero, List.set_cons_succ, List.cons_append, List.nil_append] at he
      rw [show ch.map (fun p => D.int (atP1 ns p)) = (ch.map (atP1 ns)).map .int by rw [List.map_map]; rfl, he]
      refine ⟨by rw [List.length_map]; exact hl, ?_⟩
      rw [List.nil_append, show D.lst true ((ch.map (atP1 ns)).map .int) = il true (ch.map (atP1 ns)) from rfl]
      simp only [↓vcA, vcB, vcIo, true_and, and_true, Bool.and_self, List.contains_nil, List.contains_cons, Nat.reduceBEq, Bool.or_false, Bool.false_or, if_true, Bool.false_eq_true, if_false, List.map_cons, List.map_nil, wipeE, List.set_cons_zero, List.set_cons_succ, List.cons_append, List.nil_append]
      have hsl : (sortI (ch.map (atP1 ns))).length = ch.length := by rw [len_sortI]; simp
      generalize hvs : sortI (ch.map (atP1 ns)) = vs at hsl
      have hz : (ch.zipIdx.map fun p => D.tup [.int (p.2 : Nat), .int p.1]) = ((ch.zip vs).zipIdx).map fun p => D.tup [.int (p.2 : Nat), .int p.1.1] := by
        refine List.ext_getElem (by simp [hsl]) fun i h1 h2 => ?_
        simp
      rw [hz]
      refine ok_forL_st (σ := List Int) (fun t pv => putL t pv.1.1 pv.1.2) t (fun t env => ∃ z w, env = [some (il false ns), some (fl false fam), some (il true t), some (il false ch), some (il true vs), z, w] ∧ t.length = ns.length) ⟨_, _, rfl, ht⟩ (fun pv t env hp ⟨z, w, he, ht⟩ => ?_) fun env ⟨z, w, he, ht⟩ => ?_
      · subst he
        obtain ⟨⟨p, v⟩, i⟩ := pv
        have hg := List.mk_mem_zipIdx_iff_getElem?.mp hp
        obtain ⟨g1, g2⟩ := List.getElem?_zip_eq_some.mp hg
        have hb := hr p (List.mem_of_getElem? g1)
        obtain ⟨i1, i2⟩ := List.getElem?_eq_some_iff.mp g2
        have hv : ixI vs (i : Int) = v := by rw [ixI_nat, List.getD_eq_getElem?_getD, g2]; rfl
        simp only [↓vcA, vcB, vcIo, true_and, and_true, Bool.and_self, List.contains_nil, List.contains_cons, Nat.reduceBEq, Bool.or_false, Bool.false_or, if_true, Bool.false_eq_true, if_false, List.map_cons, List.map_nil, wipeE, List.set_cons_zero, List.set_cons_succ, List.cons_append, List.nil_append, ↓vcT, hv]
        refine ⟨⟨by omega, by omega⟩, ⟨by omega, by omega⟩, ?_⟩
        rw [if_pos (by omega)]
        exact ⟨_, _, rfl, by simpa [putL] using ht⟩
      · subst he
        have e1 : ∀ (l : List (Int × Int)) (t : List Int) (k : Nat), (l.zipIdx k).foldl (fun t pv => putL t pv.1.1 pv.1.2) t = l.foldl (fun t pv => putL t pv.1 pv.2) t := by
          intro l
          induction l with
          | nil => intros; rfl
          | cons a l ih => intro t k; exact ih _ _
        have e2 : (ch.zip vs).zipIdx.foldl (fun t pv => putL t pv.1.1 pv.1.2) t = sortC ns t ch := by
          rw [e1]
          unfold sortC putAll
          rw [hvs]
        rw [e2] at ht ⊢
        exact ⟨_, _, _, _, rfl, ht⟩
  · subst he
    simp only [↓vcA, vcB, vcIo, true_and, and_true, Bool.and_self, List.contains_nil, List.contains_cons, Nat.reduceBEq, Bool.or_false, Bool.false_or, if_true, Bool.false_eq_true, if_false, List.map_cons, List.map_nil, wipeE, List.set_cons_zero, List.set_cons_succ, List.cons_append, List.nil_append]
    rfl)
theorem l_sums (n m : Nat) (ss : List Int) (h1 : 1 ≤ m) (h40 : m ≤ 40) (hl : ss.length ≤ 1000) : runI tblL lawFuel (n + 1) 20 [.int m, il false ss] = .ok (il true (sumsL m ss), .non) := Ok.eq (by
  rw [ok_run tb20 n _ rfl]
  simp only [ir20, List.map_cons, List.map_nil, List.replicate, List.cons_append, List.nil_append]
  simp only [↓vcA, vcB, vcIo, true_and, and_true, Bool.and_self, List.contains_nil, List.contains_cons, Nat.reduceBEq, Bool.or_false, Bool.false_or, if_true, Bool.false_eq_true, if_false, List.map_cons, List.map_nil, wipeE, List.set_cons_zero, List.set_cons_succ, List.cons_append, List.nil_append]
  have hline : line = 16777216 := rfl
  refine ⟨by omega, ?_⟩
  have e0 : ((List.range ((m : Int) - 1).toNat).map fun (k : Nat) => D.int (1 + (k : Int))) = (nums m).map .int := by
    unfold nums
    rw [List.map_map, show ((m : Int) - 1).toNat = m - 1 by omega]; rfl
  rw [e0]
  refine ok_forL (fun r env => ∃ (t : List Int) (x y : Option D), env = [some (.int m), some (il false ss), some (il true t), x, y] ∧ r.foldl (sumS ss) t = sumsL m ss ∧ t.length + r.length ≤ 40) ⟨[], none, none, rfl, rfl, by simp [nums]; omega⟩ (fun x r env _ h => ?_) fun env h => ?_
  · obtain ⟨t, x3, x4, he, hf, ht⟩ := h
    subst he
    simp only [List.length_cons] at ht
    simp only [↓vcA, vcB, vcIo, true_and, and_true, Bool.and_self, List.contains_nil, List.contains_cons, Nat.reduceBEq, Bool.or_false, Bool.false_or, if_true, Bool.false_eq_true, if_false, List.map_cons, List.map_nil, wipeE, List.set_cons_zero, List.set_cons_succ, List.cons_append, List.nil_append, ↓vcT]
    refine ok_compFW (fun s => decide (x = s) || t.contains (x - s)) .int (fun s hs => ?_) fun e he => ?_
    · simp only [↓vcA, vcB, vcIo, true_and, and_true, Bool.and_self, List.contains_nil, List.contains_cons, Nat.reduceBEq, Bool.or_false, Bool.false_or, if_true, Bool.false_eq_true, if_false, List.map_cons, List.map_nil, wipeE, List.set_cons_zero, List.set_cons_succ, List.cons_append, List.nil_append, ↓vcT]
      by_cases h : x = s
      · subst h
        simp
      · simp only [h, false_implies, not_false_eq_true, true_implies, true_and, decide_false, Bool.false_or]
        cases t.contains (x - s) <;> simp [brK]
    · simp only [↓vcA, vcB, vcIo, true_and, and_true, Bool.and_self, List.contains_nil, List.contains_cons, Nat.reduceBEq, Bool.or_false, Bool.false_or, if_true, Bool.false_eq_true, if_false, List.map_cons, List.map_nil, wipeE, List.set_cons_zero, List.set_cons_succ, List.cons_append, List.nil_append] at he
      rw [he, List.nil_append, show D.lst true ((ss.filter fun s => decide (x = s) || t.contains (x - s)).map .int) = il true (ss.filter fun s => decide (x = s) || t.contains (x - s)) from rfl]
      refine ⟨by rw [List.length_map]; omega, ?_⟩
      simp only [↓vcA, vcB, vcIo, true_and, and_true, Bool.and_self, List.contains_nil, List.contains_cons, Nat.reduceBEq, Bool.or_false, Bool.false_or, if_true, Bool.false_eq_true, if_false, List.map_cons, List.map_nil, wipeE, List.set_cons_zero, List.set_cons_succ, List.cons_append, List.nil_append]
      have hb : ((ss.filter fun s => decide (x = s) || t.contains (x - s)) = []) ↔ sumB ss t x = false := by
        unfold sumB
        rw [List.filter_eq_nil_iff, List.any_eq_false]
      refine ⟨fun hz => ?_, fun hz => ⟨by omega, ?_⟩⟩
      · have hb' := hb.mp hz
        refine ⟨t, _, _, rfl, ?_, by omega⟩
        rw [← hf]
        show _ = r.foldl (sumS ss) (sumS ss t x)
        unfold sumS; rw [hb']; rfl
      · have hb' : sumB ss t x = true := by
          cases h : sumB ss t x with
          | true => rfl
          | false => exact absurd (hb.mpr h) hz
        refine ⟨t ++ [x], _, _, rfl, ?_, by rw [List.length_append, List.length_singleton]; omega⟩
        rw [← hf]
        show _ = r.foldl (sumS ss) (sumS ss t x)
        unfold sumS; rw [hb']; rfl
  · obtain ⟨t, x3, x4, he, hf, ht⟩ := h
    subst he
    have hft : t = sumsL m ss := hf
    subst hft
    simp only [↓vcA, vcB, vcIo, true_and, and_true, Bool.and_self, List.contains_nil, List.contains_cons, Nat.reduceBEq, Bool.or_false, Bool.false_or, if_true, Bool.false_eq_true, if_false, List.map_cons, List.map_nil, wipeE, List.set_cons_zero, List.set_cons_succ, List.cons_append, List.nil_append])
theorem l_order (n : Nat) (ns : List Int) (g : Nat) (hg : g ≤ 40) (h40 : ns.length ≤ 40) : runI tblL lawFuel (n + 1) 23 [il false ns, .int g] = .ok (.bl (decide (inOrd ns g)), .non) := Ok.eq (by
  rw [ok_run tb23 n _ rfl]
  simp only [ir23, List.map_cons, List.map_nil, List.replicate, List.cons_append, List.nil_append]
  simp only [↓vcA, vcB, vcIo, true_and, and_true, Bool.and_self, List.contains_nil, List.contains_cons, Nat.reduceBEq, Bool.or_false, Bool.false_or, if_true, Bool.false_eq_true, if_false, List.map_cons, List.map_nil, wipeE, List.set_cons_zero, List.set_cons_succ, List.cons_append, List.nil_append]
  have hline : line = 16777216 := rfl
  refine ⟨by omega, ?_⟩
  refine ok_compFW (fun k => decide (ns.getD (k + g) 0 < ns.getD k 0)) (fun k => .int (k : Nat)) (fun k hk => ?_) fun e he => ?_
  · have hk := List.mem_range.mp hk
    simp only [↓vcA, vcB, vcIo, true_and, and_true, Bool.and_self, List.contains_nil, List.contains_cons, Nat.reduceBEq, Bool.or_false, Bool.false_or, if_true, Bool.false_eq_true, if_false, List.map_cons, List.map_nil, wipeE, List.set_cons_zero, List.set_cons_succ, List.cons_append, List.nil_append, ↓vcT]
    rw [ixI_nat, show ((k : Nat) : Int) + (g : Int) = ((k + g : Nat) : Int) by push_cast; rfl, ixI_nat]
    refine ⟨⟨by omega, by omega⟩, ⟨by omega, by omega⟩, ?_⟩
    by_cases h : ns.getD (k + g) 0 < ns.getD k 0
    · simp [h]
    · simp [h]
  · simp only [↓vcA, vcB, vcIo, true_and, and_true, Bool.and_self, List.contains_nil, List.contains_cons, Nat.reduceBEq, Bool.or_false, Bool.false_or, if_true, Bool.false_eq_true, if_false, List.map_cons, List.map_nil, wipeE, List.set_cons_zero, List.set_cons_succ, List.cons_append, List.nil_append] at he
    generalize hL : (List.range ((ns.length : Int) - g).toNat).filter (fun k => decide (ns.getD (k + g) 0 < ns.getD k 0)) = L
    rw [he, List.nil_append, show D.lst true (L.map fun k => D.int (k : Nat)) = il true (L.map fun (k : Nat) => (k : Int)) by unfold il; rw [List.map_map]; rfl]
    simp only [↓vcA, vcB, vcIo, true_and, and_true, Bool.and_self, List.contains_nil, List.contains_cons, Nat.reduceBEq, Bool.or_false, Bool.false_or, if_true, Bool.false_eq_true, if_false, List.map_cons, List.map_nil, wipeE, List.set_cons_zero, List.set_cons_succ, List.cons_append, List.nil_append]
    refine ⟨by rw [List.length_map, List.length_range]; omega, ?_⟩
    have : decide (L.map (fun (k : Nat) => (k : Int)) = []) = decide (inOrd ns g) := by
      rw [decide_eq_decide, List.map_eq_nil_iff, ← hL, List.filter_eq_nil_iff]
      constructor
      · intro h i hi
        have := h i (List.mem_range.mpr (by omega))
        simp at this
        exact this
      · intro h i hi
        have := List.mem_range.mp hi
        simp
        exact h i (by omega)
    rw [this])
theorem d_load (n M m : Nat) (h1 : 1 ≤ m) (h40 : m ≤ 40) (st : D) (hd : Dw (M + m + 2) st) : Ok (runI tblL lawFuel (n + 2) 18 [st, .int m]) fun r => Dw M r.2 ∧ ∃ ns, r.1 = il true ns ∧ ns.length = m ∧ bnd ns := by
  rw [ok_run tb18 (n + 1) _ rfl]
  simp only [ir18, List.map_cons, List.map_nil, List.replicate, List.cons_append, List.nil_append]
  simp only [↓vcA, vcB, vcIo, true_and, and_true, Bool.and_self, List.contains_nil, List.contains_cons, Nat.reduceBEq, Bool.or_false, Bool.false_or, if_true, Bool.false_eq_true, if_false, List.map_cons, List.map_nil, wipeE, List.set_cons_zero, List.set_cons_succ, List.cons_append, List.nil_append]
  have hline : line = 16777216 := rfl
  refine ok_draw hd fun d0 st0 D0 f0 => ?_
  simp only [↓vcA, vcB, vcIo, true_and, and_true, Bool.and_self, List.contains_nil, List.contains_cons, Nat.reduceBEq, Bool.or_false, Bool.false_or, if_true, Bool.false_eq_true, if_false, List.map_cons, List.map_nil, wipeE, List.set_cons_zero, List.set_cons_succ, List.cons_append, List.nil_append, f0]
  have b0 := Int.fmod_nonneg_of_pos d0 (show (0 : Int) < 4 by decide)
  have b1 := Int.fmod_lt_of_pos d0 (show (0 : Int) < 4 by decide)
  generalize d0.fmod 4 = kind at b0 b1
  refine ⟨by decide, fun hk => ?_, fun hk => ⟨by omega, ?_⟩⟩
  · refine ⟨by decide +kernel, ok_draw D0 fun d1 st1 D1 f1 => ?_⟩
    simp only [↓vcA, vcB, vcIo, true_and, and_true, Bool.and_self, List.contains_nil, List.contains_cons, Nat.reduceBEq, Bool.or_false, Bool.false_or, if_true, Bool.false_eq_true, if_false, List.map_cons, List.map_nil, wipeE, List.set_cons_zero, List.set_cons_succ, List.cons_append, List.nil_append, f1]
    have p53 : (10 : Int) ^ (53 : Int).toNat = 100000000000000000000000000000000000000000000000000000 := by decide +kernel
    have p6 : (10 : Int) ^ (6 : Int).toNat = 1000000 := rfl
    rw [p53]
    have z0 := Int.fmod_nonneg_of_pos d1 (show (0 : Int) < 3 by decide)
    have z1 := Int.fmod_lt_of_pos d1 (show (0 : Int) < 3 by decide)
    generalize d1.fmod 3 = z at z0 z1
    obtain ⟨S, hS, hSb⟩ : ∃ S : Int, ixI [1, 1, 100000000000000000000000000000000000000000000000000000] z = S ∧ S.natAbs ≤ 100000000000000000000000000000000000000000000000000000 := by
      have : z = 0 ∨ z = 1 ∨ z = 2 := by omega
      rcases this with rfl | rfl | rfl
      · exact ⟨1, rfl, by decide⟩
      · exact ⟨1, rfl, by decide⟩
      · exact ⟨_, rfl, by decide⟩
    rw [hS]
    refine ⟨by decide, ⟨by show -(3 : Int) ≤ z; omega, by show z < (3 : Int); omega⟩, by omega, ?_⟩
    refine ok_compL (fun r acc env => ∃ (ns : List Int) (st : D) (x : Option D), env = [some st, some (.int m), some (.int kind), none, none, some (.int S), x] ∧ acc = ns.map .int ∧ bnd ns ∧ ns.length + r.length = m ∧ Dw (M + r.length) st) ⟨[], st1, none, rfl, rfl, bnd_nil, by simp, by simpa using D1⟩
      (fun k r acc env _ ⟨ns, st2, x, he, ha, hb, hl, D2⟩ => ?_) fun acc env ⟨ns, st2, x, he, ha, hb, hl, D2⟩ => ?_
    · subst he ha
      simp only [↓vcA, vcB, vcIo, true_and, and_true, Bool.and_self, List.contains_nil, List.contains_cons, Nat.reduceBEq, Bool.or_false, Bool.false_or, if_true, Bool.false_eq_true, if_false, List.map_cons, List.map_nil, wipeE, List.set_cons_zero, List.set_cons_succ, List.cons_append, List.nil_append, ↓vcT]
      refine ok_draw (m := M + r.length) (D2.mono (by simp; omega)) fun d3 st3 D3 f3 => ?_
      simp only [↓vcA, vcB, vcIo, true_and, and_true, Bool.and_self, List.contains_nil, List.contains_cons, Nat.reduceBEq, Bool.or_false, Bool.false_or, if_true, Bool.false_eq_true, if_false, List.map_cons, List.map_nil, wipeE, List.set_cons_zero, List.set_cons_succ, List.cons_append, List.nil_append, f3, p6]
      obtain ⟨Q, hQ, q0, q1⟩ : ∃ Q : Int, ixI [2, (m : Int), 1000000] (kind - 1) = Q ∧ 0 < Q ∧ Q ≤ 1000000 := by
        have : kind = 1 ∨ kind = 2 ∨ kind = 3 := by omega
        rcases this with rfl | rfl | rfl
        · exact ⟨2, rfl, by decide, by decide⟩
        · exact ⟨m, rfl, by omega, by omega⟩
        · exact ⟨1000000, rfl, by decide, by decide⟩
      rw [hQ]
      have a0 := Int.fmod_nonneg_of_pos d3 q0
      have a1 := Int.fmod_lt_of_pos d3 q0
      generalize d3.fmod Q = y at a0 a1
      have hq : 0 ≤ kind.fdiv 3 ∧ kind.fdiv 3 ≤ 1 := by
        have : kind = 1 ∨ kind = 2 ∨ kind = 3 := by omega
        rcases this with rfl | rfl | rfl <;> exact ⟨by decide, by decide⟩
      generalize kind.fdiv 3 = q at hq
      refine ⟨⟨by decide, by decide⟩, ⟨by show -(3 : Int) ≤ _; omega, by show _ < (3 : Int); omega⟩, by omega, ⟨by decide, by decide⟩, .inr (by decide), .inl (by omega), ns ++ [(y - q * 500) * S], st3, _, rfl, by simp, ?_, by rw [List.length_append, List.length_singleton]; simp at hl; omega, D3⟩
      intro v hv
      rcases List.mem_append.mp hv with hv | hv
      · exact hb v hv
      · rw [List.mem_singleton.mp hv]
        refine lg ?_
        rw [Int.natAbs_mul]
        have b1 : (y - q * 500).natAbs ≤ 1000500 := by omega
        exact Nat.lt_of_le_of_lt (Nat.mul_le_mul b1 hSb) (by decide +kernel)
    · subst he ha
      simp only [↓vcA, vcB, vcIo, true_and, and_true, Bool.and_self, List.contains_nil, List.contains_cons, Nat.reduceBEq, Bool.or_false, Bool.false_or, if_true, Bool.false_eq_true, if_false, List.map_cons, List.map_nil, wipeE, List.set_cons_zero, List.set_cons_succ, List.cons_append, List.nil_append]
      exact ⟨by rw [List.length_map, List.length_range]; omega, by simpa using D2, ns, rfl, by simpa using hl, hb⟩
  · rw [ok_whl, cxT_fuel]
    have em : ((m : Int) + 1 - 1).toNat = m := by omega
    rw [em]
    refine ok_whileL (fun j env => ∃ (told left : List Int) (st : D), env = [some st, some (.int m), some (.int kind), some (il true left), some (il true told), none, none] ∧ Dw (M + left.length) st ∧ told.length + left.length = m ∧ bnd told ∧ bnd left ∧ left.length = j)
      (fun j env ⟨told, left, st, he, D1, hp, b1, b2, hj⟩ => ?_) m lawFuel _ (by show m < 2000; omega) ⟨[], _, st0, rfl, D0.mono (by simp), by simp, bnd_nil, fun v hv => ?_, by simp⟩
    · subst he
      simp only [↓vcA, vcB, vcIo, true_and, and_true, Bool.and_self, List.contains_nil, List.contains_cons, Nat.reduceBEq, Bool.or_false, Bool.false_or, if_true, Bool.false_eq_true, if_false, List.map_cons, List.map_nil, wipeE, List.set_cons_zero, List.set_cons_succ, List.cons_append, List.nil_append]
      refine ⟨fun hn => ?_, fun hn => ?_⟩
      · subst hn
        exact ⟨by simpa using D1, told, rfl, by simpa using hp, b1⟩
      · have hp2 : 0 < left.length := List.length_pos_iff.mpr hn
        refine ok_draw (m := M + (left.length - 1)) (D1.mono (by omega)) fun d4 st4 D4 f4 => ?_
        simp only [↓vcA, vcB, vcIo, true_and, and_true, Bool.and_self, List.contains_nil, List.contains_cons, Nat.reduceBEq, Bool.or_false, Bool.false_or, if_true, Bool.false_eq_true, if_false, List.map_cons, List.map_nil, wipeE, List.set_cons_zero, List.set_cons_succ, List.cons_append, List.nil_append, f4]
        refine ok_popd (by omega) hn _ fun z hz => ?_
        simp only [↓vcA, vcB, vcIo, true_and, and_true, Bool.and_self, List.contains_nil, List.contains_cons, Nat.reduceBEq, Bool.or_false, Bool.false_or, if_true, Bool.false_eq_true, if_false, List.map_cons, List.map_nil, wipeE, List.set_cons_zero, List.set_cons_succ, List.cons_append, List.nil_append]
        have el := List.length_eraseIdx_of_lt hz
        exact ⟨by omega, left.length - 1, by omega, told ++ [left[z]], left.eraseIdx z, st4, rfl, by rw [el]; exact D4, by rw [el, List.length_append, List.length_singleton]; omega, fun v hv => by
          rcases List.mem_append.mp hv with hv | hv
          · exact b1 v hv
          · rw [List.mem_singleton.mp hv]; exact b2 _ (List.getElem_mem hz), fun v hv => b2 v (List.mem_of_mem_eraseIdx hv), by rw [el]⟩
    · obtain ⟨k, hk, rfl⟩ := List.mem_map.mp hv
      have := List.mem_range.mp hk
      exact Nat.lt_of_le_of_lt (Nat.log2_le_self _) (by omega)
theorem mem_gapCh {m s f : Nat} (hs : 0 < s) (hf : f < m) {x : Int} : x ∈ gapCh m s f ↔ ∃ j : Nat, f + j * s < m ∧ x = 1 + (f : Int) + (j : Int) * s := by
  unfold gapCh
  rw [List.mem_map]
  constructor
  · rintro ⟨j, hj, rfl⟩
    exact ⟨j, (cntG_lt hs hf).mp (List.mem_range.mp hj), rfl⟩
  · rintro ⟨j, hj, rfl⟩
    exact ⟨j, List.mem_range.mpr ((cntG_lt hs hf).mpr hj), rfl⟩
theorem asc_gapCh {m s f : Nat} (hs : 0 < s) : (gapCh m s f).Pairwise (· < ·) := by
  unfold gapCh
  rw [List.pairwise_map]
  refine List.pairwise_lt_range.imp fun {a b} h => ?_
  have : (a : Int) * s < b * s := Int.mul_lt_mul_of_pos_right (by omega) (by omega)
  omega
theorem gap_flt {m s f : Nat} (hs : 0 < s) (hf : f < s) (hm : f < m) : ((List.range m).map fun (k : Nat) => 1 + (k : Int)).filter (fun p => decide ((p - (1 + (f : Int))).fmod s = 0)) = gapCh m s f := by
  refine asc_ext ?_ (asc_gapCh hs) fun x => ?_
  · refine List.Pairwise.filter _ ?_
    rw [List.pairwise_map]
    exact List.pairwise_lt_range.imp fun h => by omega
  · rw [List.mem_filter, mem_gapCh hs hm, decide_eq_true_eq, List.mem_map]
    constructor
    · rintro ⟨⟨k, hk, rfl⟩, hz⟩
      have hk := List.mem_range.mp hk
      rw [Int.fmod_eq_emod_of_nonneg _ (by omega)] at hz
      obtain ⟨q, hq⟩ := Int.dvd_of_emod_eq_zero hz
      have h0 : 0 ≤ q := by
        refine Int.not_lt.mp fun z => ?_
        have : (s : Int) * q ≤ s * (-1) := Int.mul_le_mul_of_nonneg_left (by omega) (by omega)
        omega
      refine ⟨q.toNat, ?_, ?_⟩
      · have : ((f + q.toNat * s : Nat) : Int) = k := by
          push_cast
          rw [Int.toNat_of_nonneg h0, Int.mul_comm]; omega
        omega
      · rw [Int.toNat_of_nonneg h0, Int.mul_comm]; omega
    · rintro ⟨j, hj, rfl⟩
      refine ⟨⟨f + j * s, List.mem_range.mpr hj, by push_cast; omega⟩, ?_⟩
      rw [show 1 + (f : Int) + (j : Int) * s - (1 + (f : Int)) = j * s by omega, Int.fmod_eq_emod_of_nonneg _ (by omega)]
      exact Int.mul_emod_left _ _
theorem l_gaplot (n m s : Nat) (h1 : 1 ≤ s) (hm : 1 ≤ m) (h40 : m ≤ 40) (hs : s ≤ 40) : runI tblL lawFuel (n + 1) 19 [.int m, .int s] = .ok (fl true (gapFam m s), .non) := Ok.eq (by
  rw [ok_run tb19 n _ rfl]
  simp only [ir19, List.map_cons, List.map_nil, List.replicate, List.cons_append, List.nil_append]
  simp only [↓vcA, vcB, vcIo, true_and, and_true, Bool.and_self, List.contains_nil, List.contains_cons, Nat.reduceBEq, Bool.or_false, Bool.false_or, if_true, Bool.false_eq_true, if_false, List.map_cons, List.map_nil, wipeE, List.set_cons_zero, List.set_cons_succ, List.cons_append, List.nil_append]
  have hline : line = 16777216 := rfl
  rw [min_i]
  refine ⟨by omega, ?_⟩
  have e1 : (((min s m : Nat) : Int) + 1 - 1).toNat = min s m := by omega
  rw [e1]
  refine ok_forL (fun r env => ∃ (d : List Nat) (x : Option D), env = [some (.int m), some (.int s), some (fl true (d.map (gapCh m s))), x, none] ∧ d ++ r = List.range (min s m)) ⟨[], none, rfl, rfl⟩ (fun f r env _ h => ?_) fun env h => ?_
  · obtain ⟨d, x, he, hd⟩ := h
    subst he
    have hf : f < min s m := List.mem_range.mp (by rw [← hd]; simp)
    have hln : d.length < 40 := by
      have := congrArg List.length hd
      simp at this
      omega
    simp only [↓vcA, vcB, vcIo, true_and, and_true, Bool.and_self, List.contains_nil, List.contains_cons, Nat.reduceBEq, Bool.or_false, Bool.false_or, if_true, Bool.false_eq_true, if_false, List.map_cons, List.map_nil, wipeE, List.set_cons_zero, List.set_cons_succ, List.cons_append, List.nil_append, ↓vcT]
    refine ⟨by omega, ?_⟩
    have e2 : ((List.range ((m : Int) + 1 - 1).toNat).map fun (k : Nat) => D.int (1 + (k : Int))) = ((List.range m).map fun (k : Nat) => 1 + (k : Int)).map .int := by
      rw [List.map_map, show ((m : Int) + 1 - 1).toNat = m by omega]; rfl
    rw [e2]
    refine ok_compFW (fun p => decide ((p - (1 + (f : Int))).fmod s = 0)) .int (fun p hp => ?_) fun e he => ?_
    · simp only [↓vcA, vcB, vcIo, true_and, and_true, Bool.and_self, List.contains_nil, List.contains_cons, Nat.reduceBEq, Bool.or_false, Bool.false_or, if_true, Bool.false_eq_true, if_false, List.map_cons, List.map_nil, wipeE, List.set_cons_zero, List.set_cons_succ, List.cons_append, List.nil_append, ↓vcT]
      refine ⟨by omega, ?_⟩
      by_cases h0 : (p - (1 + (f : Int))).fmod s = 0
      · simp [h0]
      · simp [h0]
    · simp only [↓vcA, vcB, vcIo, true_and, and_true, Bool.and_self, List.contains_nil, List.contains_cons, Nat.reduceBEq, Bool.or_false, Bool.false_or, if_true, Bool.false_eq_true, if_false, List.map_cons, List.map_nil, wipeE, List.set_cons_zero, List.set_cons_succ, List.cons_append, List.nil_append] at he
      rw [he, List.nil_append, gap_flt (by omega) (by omega) (by omega), show D.lst true ((gapCh m s f).map .int) = il true (gapCh m s f) from rfl]
      refine ⟨by simp; omega, ?_⟩
      simp only [↓vcA, vcB, vcIo, true_and, and_true, Bool.and_self, List.contains_nil, List.contains_cons, Nat.reduceBEq, Bool.or_false, Bool.false_or, if_true, Bool.false_eq_true, if_false, List.map_cons, List.map_nil, wipeE, List.set_cons_zero, List.set_cons_succ, List.cons_append, List.nil_append]
      exact ⟨by rw [List.length_map]; omega, d ++ [f], _, by rw [List.map_append]; rfl, by rw [List.append_assoc]; exact hd⟩
  · obtain ⟨d, x, he, hd⟩ := h
    subst he
    simp only [↓vcA, vcB, vcIo, true_and, and_true, Bool.and_self, List.contains_nil, List.contains_cons, Nat.reduceBEq, Bool.or_false, Bool.false_or, if_true, Bool.false_eq_true, if_false, List.map_cons, List.map_nil, wipeE, List.set_cons_zero, List.set_cons_succ, List.cons_append, List.nil_append]
    rw [List.append_nil] at hd
    rw [hd]; rfl)
theorem g_ne (m s : Nat) (h1 : 1 ≤ s) (hm : 1 ≤ m) : ∃ c F, gapFam m s = c :: F := by
  cases h : gapFam m s with
  | nil =>
    have := congrArg List.length h
    simp [gapFam] at this
    omega
  | cons c F => exact ⟨c, F, rfl⟩
theorem rp_gap (o : Bool) (m s : Nat) (h1 : 1 ≤ s) (h40 : m ≤ 40) (k : Nat) : RP (fl o (gapFam m s)) (k + 2) 81 := by
  have ok := gapFam_ok (m := m) (s := s) (by omega) h40
  refine rp_fl o (fun ch hc => bnd_le fun p hp => ?_) k ?_
  · have := ok.1 p (List.mem_flatten.mpr ⟨ch, hc, hp⟩)
    omega
  · have a := nodup_le _ _ ok.2.1 ok.1
    have b : (gapFam m s).length = min s m := by simp [gapFam]
    omega
theorem bnd_sumsL {m : Nat} {ss : List Int} (hs : ∀ s, s ∈ ss → 1 ≤ s) (h40 : m ≤ 40) : bnd (sumsL m ss) := bnd_sm fun v hv => by
  have := (mem_sumsL hs).mp hv
  omega
theorem noOwn_fl1 {c : List Int} {F : List (List Int)} : noOwn (fl true (c :: F)) = false := id rfl
theorem mem_gapsL {ns : List Int} {g : Int} : g ∈ gapsL ns ↔ 1 ≤ g ∧ g < (ns.length : Int) ∧ inOrd ns g.toNat := by
  unfold gapsL
  rw [List.mem_filter, mem_nums, decide_eq_true_eq]
  constructor
  · rintro ⟨⟨a, b⟩, c⟩; exact ⟨a, b, c⟩
  · rintro ⟨a, b, c⟩; exact ⟨⟨a, b⟩, c⟩
theorem len_nums (m : Nat) : (nums m).length = m - 1 := by simp [nums]
theorem len_gapsL (ns : List Int) : (gapsL ns).length ≤ ns.length := by
  have := List.length_filter_le (fun g => decide (inOrd ns g.toNat)) (nums ns.length)
  rw [len_nums] at this
  unfold gapsL
  omega
theorem nums_D (m : Nat) : ((List.range ((m : Int) - 1).toNat).map fun (k : Nat) => D.int (1 + (k : Int))) = (nums m).map .int := by
  unfold nums
  rw [List.map_map, show ((m : Int) - 1).toNat = m - 1 by omega]; rfl
/-! all fillings by 0 and 1 -/
def bits (m k : Nat) : List Int := (List.range m).map fun (a : Nat) => (((k : Int) / 2 ^ a).fmod 2)
theorem bits_len (m k : Nat) : (bits m k).length = m := by simp [bits]
theorem bits_c (m k w : Nat) (hw : w < 2) : bits (m + 1) (w + 2 * k) = (w : Int) :: bits m k := by
  unfold bits
  rw [List.range_succ_eq_map, List.map_cons, List.map_map]
  congr 1
  · rw [Int.fmod_eq_emod_of_nonneg _ (by decide)]
    simp only [Int.pow_zero, Int.ediv_one]
    omega
  · refine List.map_congr_left fun a _ => ?_
    show (((w + 2 * k : Nat) : Int) / 2 ^ (a + 1)).fmod 2 = _
    congr 1
    rw [Int.pow_succ, Int.mul_comm, ← Int.ediv_ediv_of_nonneg (by decide)]
    congr 1
    omega
theorem bits_all : ∀ W : List Int, (∀ w, w ∈ W → w = 0 ∨ w = 1) → ∃ k : Nat, k < 2 ^ W.length ∧ bits W.length k = W
  | [], _ => ⟨0, by decide, rfl⟩
  | w :: W, h => by
    obtain ⟨k, hk, e⟩ := bits_all W fun v hv => h v (List.mem_cons_of_mem _ hv)
    have hp : 2 ^ (w :: W).length = 2 * 2 ^ W.length := by rw [List.length_cons, Nat.pow_succ]; omega
    rcases h w List.mem_cons_self with rfl | rfl
    · exact ⟨0 + 2 * k, by omega, by rw [List.length_cons, bits_c _ _ 0 (by decide), e]; rfl⟩
    · exact ⟨1 + 2 * k, by omega, by rw [List.length_cons, bits_c _ _ 1 (by decide), e]; rfl⟩
def passL (m : Nat) (ss : List Int) (t : List Int) : List Int := ss.foldl (fun t s => sortIn t (gapFam m s.toNat)) t
theorem pass_len (m : Nat) : ∀ (ss t : List Int), (passL m ss t).length = t.length
  | [], _ => rfl
  | s :: ss, t => by
    show (passL m ss (sortIn t (gapFam m s.toNat))).length = _
    rw [pass_len m ss, len_sortIn]
theorem pass_keeps (m : Nat) (h40 : m ≤ 40) {h : Nat} (hh : 0 < h) : ∀ (ss t : List Int), (∀ s, s ∈ ss → 1 ≤ s) → t.length = m → inOrd t h → inOrd (passL m ss t) h
  | [], _, _, _, k => k
  | s :: ss, t, h1, hl, k => by
    refine pass_keeps m h40 hh ss (sortIn t (gapFam m s.toNat)) (fun x hx => h1 x (List.mem_cons_of_mem _ hx)) (by rw [len_sortIn]; exact hl) ?_
    have := h1 s List.mem_cons_self
    have := gap_keeps (ns := t) (s := s.toNat) (h := h) (by omega) hh (by omega) k
    rwa [hl] at this
theorem pass_does (m : Nat) (h40 : m ≤ 40) : ∀ (ss t : List Int), (∀ s, s ∈ ss → 1 ≤ s) → t.length = m → ∀ s, s ∈ ss → inOrd (passL m ss t) s.toNat
  | [], _, _, _, s, h => by simp at h
  | s :: ss, t, h1, hl, x, hx => by
    have h0 := h1 s List.mem_cons_self
    have hl2 : (sortIn t (gapFam m s.toNat)).length = m := by rw [len_sortIn]; exact hl
    have h2 : ∀ x, x ∈ ss → 1 ≤ x := fun x hx => h1 x (List.mem_cons_of_mem _ hx)
    rcases List.mem_cons.mp hx with rfl | hx
    · refine pass_keeps m h40 (by omega) ss _ h2 hl2 ?_
      have := gap_does (ns := t) (s := x.toNat) (by omega) (by omega)
      rwa [hl] at this
    · exact pass_does m h40 ss _ h2 hl2 x hx
theorem pass_stays (m : Nat) (h40 : m ≤ 40) (t : List Int) (hl : t.length = m) : ∀ (ss : List Int), (∀ s, s ∈ ss → 1 ≤ s ∧ inOrd t s.toNat) → passL m ss t = t
  | [], _ => rfl
  | s :: ss, h => by
    obtain ⟨h0, h1⟩ := h s List.mem_cons_self
    have e := gap_stays (ns := t) (s := s.toNat) (by omega) (by omega) h1
    rw [hl] at e
    show passL m ss (sortIn t (gapFam m s.toNat)) = t
    rw [e]
    exact pass_stays m h40 t hl ss fun x hx => h x (List.mem_cons_of_mem _ hx)
theorem sure_eq (m : Nat) (h40 : m ≤ 40) (ss : List Int) (h1 : ∀ s, s ∈ ss → 1 ≤ s) : (nums m).filter (fun x => decide (∀ k, k < 2 ^ m → inOrd (passL m ss (bits m k)) x.toNat)) = sumsL m ss := by
  refine asc_ext ((asc_nums m).filter _) (sumsL_asc m ss) fun x => ?_
  rw [List.mem_filter, mem_nums, decide_eq_true_eq, mem_sumsL h1]
  constructor
  · rintro ⟨⟨a, b⟩, c⟩
    by_cases hx : x ∈ sumsL m ss
    · exact (mem_sumsL h1).mp hx
    · exfalso
      obtain ⟨k, hk, e⟩ := bits_all (worst m ss) fun w hw => by
        unfold worst at hw
        rw [List.mem_reverse] at hw
        obtain ⟨i, _, rfl⟩ := List.mem_map.mp hw
        split
        · exact .inl rfl
        · exact .inr rfl
      rw [worst_len] at hk e
      have := c k hk
      rw [e, pass_stays m h40 _ (worst_len m ss) ss fun s hs => ⟨h1 s hs, worst_ord h1 hs⟩] at this
      exact worst_not a b hx this
  · rintro ⟨a, b, c⟩
    exact ⟨⟨a, b⟩, fun k _ => inOrd_sum h1 (fun s hs => pass_does m h40 ss _ h1 (bits_len m k) s hs) c⟩
end KS
set_option Elab.async false
set_option linter.all false
set_option maxRecDepth 100000
namespace KS
open PySem L2
/-! ### sweeps: one exchange after another along the chains of a gap -/
/-- the greatest one up to a place of its chain -/
def Mx (x : List Int) (g p : Nat) : Int := if h : 0 < g ∧ g ≤ p then max (Mx x g (p - g)) (x.getD p 0) else x.getD p 0
termination_by p
decreasing_by omega
theorem Mx_lt {x : List Int} {g p : Nat} (h : p < g) : Mx x g p = x.getD p 0 := by
  rw [Mx, dif_neg (by omega)]
theorem Mx_add {x : List Int} {g : Nat} (hg : 0 < g) (p : Nat) : Mx x g (p + g) = max (Mx x g p) (x.getD (p + g) 0) := by
  rw [Mx, dif_pos ⟨hg, by omega⟩, Nat.add_sub_cancel]
theorem le_Mx (x : List Int) (g p : Nat) : x.getD p 0 ≤ Mx x g p := by
  rw [Mx]
  split <;> omega
/-- along a chain -/
theorem chain_ind {P : Nat → Prop} {g : Nat} (hg : 0 < g) (h0 : ∀ p, p < g → P p) (hs : ∀ p, P p → P (p + g)) (p : Nat) : P p := by
  induction p using Nat.strongRecOn with
  | ind p ih =>
    by_cases h : p < g
    · exact h0 p h
    · have := hs (p - g) (ih (p - g) (by omega))
      rwa [Nat.sub_add_cancel (by omega)] at this
/-- what stands at a place after a sweep -/
def swY (x : List Int) (g p : Nat) : Int := if p + g < x.length then min (Mx x g p) (x.getD (p + g) 0) else Mx x g p
def stp (g : Nat) (t : List Int) (p : Nat) : List Int := (t.set p (min (t.getD p 0) (t.getD (p + g) 0))).set (p + g) (max (t.getD p 0) (t.getD (p + g) 0))
def sw (x : List Int) (g : Nat) : List Int := (List.range (x.length - g)).foldl (stp g) x
theorem len_stp (g : Nat) (t : List Int) (p : Nat) : (stp g t p).length = t.length := by simp [stp]
theorem getD_set (t : List Int) (i j : Nat) (v : Int) (hi : i < t.length) : (t.set i v).getD j 0 = if j = i then v else t.getD j 0 := by
  by_cases h : j = i
  · subst h
    rw [if_pos rfl, List.getD_eq_getElem?_getD, List.getElem?_set_self hi]; rfl
  · rw [if_neg h, List.getD_eq_getElem?_getD, List.getElem?_set_ne (Ne.symm h), List.getD_eq_getElem?_getD]
theorem sw_inv (x : List Int) {g : Nat} (hg : 0 < g) : ∀ k, k ≤ x.length - g → ((List.range k).foldl (stp g) x).length = x.length ∧ ∀ i, i < x.length → ((List.range k).foldl (stp g) x).getD i 0 = if i < k then swY x g i else if i < k + g then Mx x g i else x.getD i 0
  | 0, _ => ⟨rfl, fun i hi => by
    rw [if_neg (by omega)]
    by_cases h : i < 0 + g
    · rw [if_pos h, Mx_lt (by omega)]; rfl
    · rw [if_neg h]; rfl⟩
  | k + 1, hk => by
    obtain ⟨hl, ih⟩ := sw_inv x hg k (by omega)
    rw [List.range_succ, List.foldl_append]
    generalize (List.range k).foldl (stp g) x = t at *
    show (stp g t k).length = x.length ∧ ∀ i, i < x.length → (stp g t k).getD i 0 = _
    refine ⟨by rw [len_stp]; exact hl, fun i hi => ?_⟩
    have a := ih k (by omega)
    have b := ih (k + g) (by omega)
    rw [if_neg (by omega), if_pos (by omega)] at a
    rw [if_neg (by omega), if_neg (by omega)] at b
    unfold stp
    rw [a, b, getD_set _ _ _ _ (by simp; omega), getD_set _ _ _ _ (by omega)]
    by_cases h1 : i = k + g
    · subst h1
      rw [if_pos rfl, if_neg (by omega), if_pos (by omega), Mx_add hg]
    · rw [if_neg h1]
      by_cases h2 : i = k
      · subst h2
        rw [if_pos rfl, if_pos (by omega), swY, if_pos (by omega)]
      · rw [if_neg h2, ih i hi]
        by_cases h3 : i < k
        · rw [if_pos h3, if_pos (show i < k + 1 by omega)]
        · rw [if_neg h3, if_neg (show ¬ i < k + 1 by omega)]
          by_cases h4 : i < k + g
          · rw [if_pos h4, if_pos (show i < k + 1 + g by omega)]
          · rw [if_neg h4, if_neg (show ¬ i < k + 1 + g by omega)]
theorem len_sw (x : List Int) (g : Nat) : (sw x g).length = x.length := by
  unfold sw
  have : ∀ (l : List Nat) (t : List Int), (l.foldl (stp g) t).length = t.length := by
    intro l
    induction l with
    | nil => intro t; rfl
    | cons a l ih => intro t; rw [List.foldl_cons, ih, len_stp]
  exact this _ _
theorem sw_at (x : List Int) {g : Nat} (hg : 0 < g) {i : Nat} (hi : i < x.length) : (sw x g).getD i 0 = swY x g i := by
  have h := (sw_inv x hg (x.length - g) (Nat.le_refl _)).2 i hi
  show ((List.range (x.length - g)).foldl (stp g) x).getD i 0 = _
  rw [h]
  by_cases h1 : i < x.length - g
  · rw [if_pos h1]
  · rw [if_neg h1]
    by_cases h2 : i < x.length - g + g
    · rw [if_pos h2, swY, if_neg (by omega)]
    · omega
/-! a sweep keeps what is in order -/
theorem Mx_mono {x : List Int} {g h : Nat} (hg : 0 < g) (ho : inOrd x h) : ∀ p, p + h < x.length → Mx x g p ≤ Mx x g (p + h) := by
  intro p
  refine chain_ind (P := fun p => p + h < x.length → Mx x g p ≤ Mx x g (p + h)) hg (fun p hp hl => ?_) (fun p ih hl => ?_) p
  · rw [Mx_lt hp]
    have := ho p hl
    have := le_Mx x g (p + h)
    omega
  · have e : p + g + h = (p + h) + g := by omega
    have a := ih (by omega)
    have b := ho (p + g) hl
    rw [e] at b ⊢
    rw [Mx_add hg, Mx_add hg]
    omega
theorem sw_keeps {x : List Int} {g h : Nat} (hg : 0 < g) (ho : inOrd x h) : inOrd (sw x g) h := by
  intro i hi
  rw [len_sw] at hi
  rw [sw_at x hg (by omega), sw_at x hg hi]
  unfold swY
  have a := Mx_mono hg ho i hi
  by_cases h1 : i + h + g < x.length
  · rw [if_pos (by omega), if_pos h1]
    have b := ho (i + g) (by omega)
    rw [show i + g + h = i + h + g by omega] at b
    omega
  · rw [if_neg h1]
    split <;> omega
/-! how many stand before and are greater -/
def cn (x : List Int) (g : Nat) (v : Int) (p : Nat) : Nat := (List.range (p / g)).countP fun j => decide (v < x.getD (p - (j + 1) * g) 0)
theorem cn_lt {x : List Int} {g p : Nat} {v : Int} (h : p < g) : cn x g v p = 0 := by
  unfold cn
  rw [Nat.div_eq_of_lt h]; rfl
theorem cn_add {x : List Int} {g : Nat} (hg : 0 < g) (v : Int) (p : Nat) : cn x g v (p + g) = cn x g v p + if v < x.getD p 0 then 1 else 0 := by
  unfold cn
  rw [Nat.add_div_right _ hg, List.range_succ_eq_map, List.countP_cons, List.countP_map]
  congr 1
  · congr 1
    funext j
    show decide (v < x.getD (p + g - (j + 1 + 1) * g) 0) = _
    rw [show p + g - (j + 1 + 1) * g = p - (j + 1) * g by rw [Nat.succ_mul (j + 1) g]; omega]
  · rw [show p + g - (0 + 1) * g = p by omega]
    by_cases h : v < x.getD p 0 <;> simp [h]
def ind (b : Bool) : Nat := if b = true then 1 else 0
theorem cn_add' {x : List Int} {g : Nat} (hg : 0 < g) (v : Int) (p : Nat) : cn x g v (p + g) = cn x g v p + ind (decide (v < x.getD p 0)) := by
  rw [cn_add hg]
  unfold ind
  by_cases h : v < x.getD p 0 <;> simp [h]
theorem cn_sw {x : List Int} {g : Nat} (hg : 0 < g) (v : Int) (p : Nat) : p < x.length → cn (sw x g) g v p + ind (decide (v < Mx x g p)) = cn x g v p + ind (decide (v < x.getD p 0)) := by
  refine chain_ind (P := fun p => p < x.length → cn (sw x g) g v p + ind (decide (v < Mx x g p)) = cn x g v p + ind (decide (v < x.getD p 0))) hg (fun p hp hl => ?_) (fun p ih hl => ?_) p
  · rw [cn_lt hp, cn_lt hp, Mx_lt hp]
  · have a := ih (by omega)
    rw [cn_add' hg, cn_add' hg, ← a, sw_at x hg (by omega), Mx_add hg, swY, if_pos hl]
    unfold ind
    simp only [decide_eq_true_eq]
    split <;> split <;> split <;> (try split) <;> omega
theorem cn_top {x : List Int} {g : Nat} (hg : 0 < g) (v : Int) (p : Nat) : Mx x g p ≤ v → cn x g v p + ind (decide (v < x.getD p 0)) = 0 := by
  refine chain_ind (P := fun p => Mx x g p ≤ v → cn x g v p + ind (decide (v < x.getD p 0)) = 0) hg (fun p hp hv => ?_) (fun p ih hv => ?_) p
  · rw [Mx_lt hp] at hv
    rw [cn_lt hp, ind, if_neg (by rw [decide_eq_true_eq]; omega)]
  · rw [Mx_add hg] at hv
    have := ih (by omega)
    rw [cn_add' hg, this, ind, if_neg (by rw [decide_eq_true_eq]; omega)]
/-- how many stand before a place's value and are greater -/
def cp (x : List Int) (g p : Nat) : Nat := cn x g (x.getD p 0) p
theorem cp_sw {x : List Int} {g : Nat} (hg : 0 < g) {p : Nat} (hp : p < x.length) : cp (sw x g) g p = (if p + g < x.length then cp x g (p + g) else 0) - 1 := by
  unfold cp
  rw [sw_at x hg hp]
  have h := cn_sw (x := x) hg (swY x g p) p hp
  by_cases h1 : p + g < x.length
  · rw [if_pos h1, cn_add' hg]
    have hy : swY x g p = min (Mx x g p) (x.getD (p + g) 0) := by rw [swY, if_pos h1]
    rw [hy] at h ⊢
    by_cases h2 : x.getD (p + g) 0 < Mx x g p
    · rw [show min (Mx x g p) (x.getD (p + g) 0) = x.getD (p + g) 0 by omega] at h ⊢
      rw [← h, ind, if_pos (by rw [decide_eq_true_eq]; exact h2)]; rfl
    · rw [show min (Mx x g p) (x.getD (p + g) 0) = Mx x g p by omega] at h ⊢
      have a := cn_top (x := x) hg (Mx x g p) p (Int.le_refl _)
      have b := cn_top (x := x) hg (x.getD (p + g) 0) p (by omega)
      omega
  · rw [if_neg h1]
    have hy : swY x g p = Mx x g p := by rw [swY, if_neg h1]
    rw [hy] at h ⊢
    have a := cn_top (x := x) hg (Mx x g p) p (Int.le_refl _)
    omega
theorem cp_ord {x : List Int} {g : Nat} (hg : 0 < g) : inOrd x g ↔ ∀ p, p < x.length → cp x g p = 0 := by
  constructor
  · intro h p hp
    have key : ∀ p, p < x.length → Mx x g p = x.getD p 0 := by
      intro p
      refine chain_ind (P := fun p => p < x.length → Mx x g p = x.getD p 0) hg (fun p hp _ => Mx_lt hp) (fun p ih hl => ?_) p
      have := h p hl
      rw [Mx_add hg, ih (by omega)]
      omega
    have := cn_top (x := x) hg (x.getD p 0) p (by rw [key p hp]; exact Int.le_refl _)
    unfold cp
    omega
  · intro h p hp
    have := h (p + g) hp
    unfold cp at this
    rw [cn_add' hg, ind] at this
    refine Int.not_lt.mp fun z => ?_
    rw [if_pos (by rw [decide_eq_true_eq]; exact z)] at this
    omega
theorem cp_le (x : List Int) (g p : Nat) : cp x g p ≤ p / g := by
  unfold cp cn
  exact Nat.le_trans List.countP_le_length (by simp)
/-- the most of them -/
def cm (x : List Int) (g : Nat) : Nat := (List.range x.length).foldl (fun t p => max t (cp x g p)) 0
theorem fold_max (f : Nat → Nat) : ∀ (l : List Nat) (t : Nat), (∀ p, p ∈ l → f p ≤ l.foldl (fun t p => max t (f p)) t) ∧ t ≤ l.foldl (fun t p => max t (f p)) t ∧ (l.foldl (fun t p => max t (f p)) t = t ∨ ∃ p, p ∈ l ∧ l.foldl (fun t p => max t (f p)) t = f p)
  | [], t => ⟨fun p h => by simp at h, Nat.le_refl _, .inl rfl⟩
  | a :: l, t => by
    obtain ⟨h1, h2, h3⟩ := fold_max f l (max t (f a))
    rw [List.foldl_cons]
    refine ⟨fun p hp => ?_, by omega, ?_⟩
    · rcases List.mem_cons.mp hp with rfl | hp
      · omega
      · exact h1 p hp
    · rcases h3 with h3 | ⟨p, hp, h3⟩
      · rw [h3]
        by_cases h : t ≤ f a
        · exact .inr ⟨a, List.mem_cons_self, by omega⟩
        · exact .inl (by omega)
      · exact .inr ⟨p, List.mem_cons_of_mem _ hp, h3⟩
theorem cp_cm {x : List Int} {g p : Nat} (hp : p < x.length) : cp x g p ≤ cm x g := (fold_max (cp x g) _ 0).1 p (List.mem_range.mpr hp)
theorem cm_at (x : List Int) (g : Nat) : cm x g = 0 ∨ ∃ p, p < x.length ∧ cm x g = cp x g p := by
  rcases (fold_max (cp x g) (List.range x.length) 0).2.2 with h | ⟨p, hp, h⟩
  · exact .inl h
  · exact .inr ⟨p, List.mem_range.mp hp, h⟩
theorem cm_le {x : List Int} {g n : Nat} (h : ∀ p, p < x.length → cp x g p ≤ n) : cm x g ≤ n := by
  rcases cm_at x g with e | ⟨p, hp, e⟩
  · omega
  · rw [e]; exact h p hp
theorem cm_ord {x : List Int} {g : Nat} (hg : 0 < g) : inOrd x g ↔ cm x g = 0 := by
  rw [cp_ord hg]
  constructor
  · intro h
    have := cm_le (x := x) (g := g) (n := 0) fun p hp => by rw [h p hp]; exact Nat.le_refl _
    omega
  · intro h p hp
    have := cp_cm (g := g) hp
    omega
theorem cm_sw {x : List Int} {g : Nat} (hg : 0 < g) : cm (sw x g) g = cm x g - 1 := by
  have h1 : cm (sw x g) g ≤ cm x g - 1 := cm_le fun p hp => by
    rw [len_sw] at hp
    rw [cp_sw hg hp]
    split
    · rename_i h
      have := cp_cm (g := g) h
      omega
    · omega
  rcases cm_at x g with e | ⟨p, hp, e⟩
  · omega
  · by_cases h : p < g
    · have : cp x g p = 0 := by unfold cp; exact cn_lt h
      omega
    · have h2 := cp_sw (x := x) hg (p := p - g) (by omega)
      rw [Nat.sub_add_cancel (by omega), if_pos hp] at h2
      have h3 := cp_cm (x := sw x g) (g := g) (p := p - g) (by rw [len_sw]; omega)
      omega
theorem cm_len (x : List Int) {g : Nat} (hg : 0 < g) : cm x g ≤ x.length := cm_le fun p hp => by
  have := cp_le x g p
  have := Nat.div_le_self p g
  omega
/-! multiples of a gap that are no sums -/
def msN (m : Nat) (ss : List Int) (g : Nat) : Nat := (List.range ((m - 1) / g)).countP fun j => !(sumsL m ss).contains (((j + 1) * g : Nat) : Int)
theorem countP_range_mono {a b : Nat} (h : a ≤ b) (p : Nat → Bool) : (List.range a).countP p ≤ (List.range b).countP p := by
  have : (List.range a).Sublist (List.range b) := by
    obtain ⟨c, rfl⟩ : ∃ c, b = a + c := ⟨b - a, by omega⟩
    rw [List.range_add]
    exact List.sublist_append_left ..
  exact this.countP_le
theorem cp_need {x ss : List Int} {g : Nat} (hg : 0 < g) (h1 : ∀ s, s ∈ ss → 1 ≤ s) (ho : ∀ s, s ∈ ss → inOrd x s.toNat) {p : Nat} (hp : p < x.length) : cp x g p ≤ msN x.length ss g := by
  unfold cp cn msN
  refine Nat.le_trans (List.countP_mono_left fun j hj hz => ?_) (countP_range_mono (Nat.div_le_div_right (c := g) (show p ≤ x.length - 1 by omega)) _)
  have hj := List.mem_range.mp hj
  have hjg : (j + 1) * g ≤ p := by
    have := Nat.div_mul_le_self p g
    have : (j + 1) * g ≤ p / g * g := Nat.mul_le_mul_right g hj
    omega
  rw [decide_eq_true_eq] at hz
  rw [List.contains_eq_mem, Bool.not_eq_true', decide_eq_false_iff_not]
  intro hm
  have hs := (mem_sumsL h1).mp hm
  have := inOrd_sum h1 ho hs.2.2
  rw [Int.toNat_natCast] at this
  have := this (p - (j + 1) * g) (by omega)
  rw [Nat.sub_add_cancel hjg] at this
  omega
theorem cm_need {x ss : List Int} {g : Nat} (hg : 0 < g) (h1 : ∀ s, s ∈ ss → 1 ≤ s) (ho : ∀ s, s ∈ ss → inOrd x s.toNat) : cm x g ≤ msN x.length ss g := cm_le fun _ hp => cp_need hg h1 ho hp
theorem cm_worst {ss : List Int} {g m : Nat} (hg : 0 < g) (hm : 0 < m) (h1 : ∀ s, s ∈ ss → 1 ≤ s) : cm (worst m ss) g = msN m ss g := by
  have hl := worst_len m ss
  have a := cm_need (x := worst m ss) (ss := ss) hg h1 fun s hs => worst_ord h1 hs
  rw [hl] at a
  refine Nat.le_antisymm a ?_
  have b := cp_cm (x := worst m ss) (g := g) (p := m - 1) (by omega)
  refine Nat.le_trans (Nat.le_of_eq ?_) b
  unfold cp cn msN
  refine List.countP_congr fun j hj => ?_
  have hj := List.mem_range.mp hj
  have hjg : (j + 1) * g ≤ m - 1 := by
    have := Nat.div_mul_le_self (m - 1) g
    have : (j + 1) * g ≤ (m - 1) / g * g := Nat.mul_le_mul_right g hj
    omega
  have hjp : 0 < (j + 1) * g := Nat.mul_pos (by omega) hg
  rw [worst_at (by omega), worst_at (by omega), show m - 1 - (m - 1) = 0 by omega, show m - 1 - (m - 1 - (j + 1) * g) = (j + 1) * g by omega, if_pos (.inl rfl), List.contains_eq_mem]
  by_cases h : (((j + 1) * g : Nat) : Int) ∈ sumsL m ss
  · rw [if_pos (.inr h), decide_eq_true h]; decide
  · rw [if_neg (fun z => z.elim (fun z => by omega) h), decide_eq_false h]; decide
end KS
set_option Elab.async false
set_option linter.all false
set_option maxRecDepth 100000
namespace KS
open PySem L2
/-! ### sweeps: the program's functions and the law's own -/
def msL (m : Nat) (ss : List Int) (g : Nat) : List Int := ((List.range ((m - 1) / g)).map fun (j : Nat) => (g : Int) + (j : Int) * g).filter fun x => !(sumsL m ss).contains x
theorem msL_len (m : Nat) (ss : List Int) (g : Nat) : (msL m ss g).length = msN m ss g := by
  unfold msL msN
  rw [← List.countP_eq_length_filter, List.countP_map]
  refine List.countP_congr fun j _ => ?_
  show (!(sumsL m ss).contains ((g : Int) + (j : Int) * g)) = true ↔ _
  rw [show (((j + 1) * g : Nat) : Int) = (g : Int) + (j : Int) * g by rw [Nat.succ_mul]; push_cast; omega]
theorem rangeN_ms {m g : Nat} (h : 0 < g) : rangeN (g : Int) (m : Int) (g : Int) = (m - 1) / g := by
  unfold rangeN
  rw [if_pos (by omega)]
  by_cases h1 : (g : Int) < m
  · rw [if_pos h1]
    have e : ((m : Int) - g - 1) / (g : Int) = (((m - g - 1) / g : Nat) : Int) := by
      rw [Int.natCast_ediv]
      congr 1
      omega
    rw [e]
    have e2 : (m - 1) / g = (m - g - 1) / g + 1 := by
      rw [show m - 1 = (m - g - 1) + g by omega, Nat.add_div_right _ h]
    rw [e2]
    generalize (m - g - 1) / g = q
    omega
  · rw [if_neg h1, Nat.div_eq_of_lt (by omega)]
theorem g_missing (n m : Nat) (ss : List Int) (g : Nat) (h1 : 1 ≤ m) (h40 : m ≤ 40) (hs : ∀ s, s ∈ ss → 1 ≤ s) (hl : ss.length ≤ 1000) (hg : 1 ≤ g) (hg40 : g ≤ 40) : runI tblL lawFuel (n + 2) 7 [.int m, il false ss, .int g] = .ok (il true (msL m ss g), .non) := Ok.eq (by
  rw [ok_run tb7 (n + 1) _ rfl]
  simp only [ir7, List.map_cons, List.map_nil, List.replicate, List.cons_append, List.nil_append]
  simp only [↓vcA, vcB, vcIo, true_and, and_true, Bool.and_self, List.contains_nil, List.contains_cons, Nat.reduceBEq, Bool.or_false, Bool.false_or, if_true, Bool.false_eq_true, if_false, List.map_cons, List.map_nil, wipeE, List.set_cons_zero, List.set_cons_succ, List.cons_append, List.nil_append]
  have hline : line = 16777216 := rfl
  simp only [↓vcA, vcB, vcIo, true_and, and_true, Bool.and_self, List.contains_nil, List.contains_cons, Nat.reduceBEq, Bool.or_false, Bool.false_or, if_true, Bool.false_eq_true, if_false, List.map_cons, List.map_nil, wipeE, List.set_cons_zero, List.set_cons_succ, List.cons_append, List.nil_append, g_sumsin n m ss h1 h40 hs hl]
  rw [rangeN_ms hg]
  have hd : (m - 1) / g ≤ m := Nat.le_trans (Nat.div_le_self _ _) (by omega)
  refine ⟨⟨by omega, by omega⟩, ?_⟩
  refine ok_compFW (fun k => !(sumsL m ss).contains ((g : Int) + (k : Nat) * g)) (fun k => .int ((g : Int) + (k : Nat) * g)) (fun k hk => ?_) fun e he => ?_
  · simp only [↓vcA, vcB, vcIo, true_and, and_true, Bool.and_self, List.contains_nil, List.contains_cons, Nat.reduceBEq, Bool.or_false, Bool.false_or, if_true, Bool.false_eq_true, if_false, List.map_cons, List.map_nil, wipeE, List.set_cons_zero, List.set_cons_succ, List.cons_append, List.nil_append, ↓vcT]
    cases (sumsL m ss).contains ((g : Int) + (k : Nat) * g) <;> simp [brK]
  · simp only [↓vcA, vcB, vcIo, true_and, and_true, Bool.and_self, List.contains_nil, List.contains_cons, Nat.reduceBEq, Bool.or_false, Bool.false_or, if_true, Bool.false_eq_true, if_false, List.map_cons, List.map_nil, wipeE, List.set_cons_zero, List.set_cons_succ, List.cons_append, List.nil_append] at he
    rw [he, List.nil_append, show D.lst true (((List.range ((m - 1) / g)).filter fun k => !(sumsL m ss).contains ((g : Int) + (k : Nat) * g)).map fun k => .int ((g : Int) + (k : Nat) * g)) = il true (msL m ss g) by
      unfold il msL
      rw [List.filter_map, List.map_map]; rfl]
    simp only [↓vcA, vcB, vcIo, true_and, and_true, Bool.and_self, List.contains_nil, List.contains_cons, Nat.reduceBEq, Bool.or_false, Bool.false_or, if_true, Bool.false_eq_true, if_false, List.map_cons, List.map_nil, wipeE, List.set_cons_zero, List.set_cons_succ, List.cons_append, List.nil_append]
    rw [List.length_map, List.length_range]
    omega)
theorem g_passes (n m : Nat) (ss : List Int) (g : Nat) (h1 : 1 ≤ m) (h40 : m ≤ 40) (hs : ∀ s, s ∈ ss → 1 ≤ s ∧ s ≤ (m : Int)) (hg : 1 ≤ g) (hgm : g ≤ m) : runI tblL lawFuel (n + 4) 10 [.int m, il false ss, .int g] = .ok (.non, .non) := Ok.eq (by
  rw [ok_run tb10 (n + 3) _ rfl]
  simp only [ir10, List.map_cons, List.map_nil, List.replicate, List.cons_append, List.nil_append]
  simp only [↓vcA, vcB, vcIo, true_and, and_true, Bool.and_self, List.contains_nil, List.contains_cons, Nat.reduceBEq, Bool.or_false, Bool.false_or, if_true, Bool.false_eq_true, if_false, List.map_cons, List.map_nil, wipeE, List.set_cons_zero, List.set_cons_succ, List.cons_append, List.nil_append]
  simp only [↓vcA, vcB, vcIo, true_and, and_true, Bool.and_self, List.contains_nil, List.contains_cons, Nat.reduceBEq, Bool.or_false, Bool.false_or, if_true, Bool.false_eq_true, if_false, List.map_cons, List.map_nil, wipeE, List.set_cons_zero, List.set_cons_succ, List.cons_append, List.nil_append, g_places n m (by omega) (by omega), g_gaps (n + 1) m ss hs, g_gap n g m (by omega) (by omega)])
theorem g_needed (n m : Nat) (ss : List Int) (g : Nat) (h1 : 1 ≤ m) (h40 : m ≤ 40) (hs : ∀ s, s ∈ ss → 1 ≤ s ∧ s ≤ (m : Int)) (hl : ss.length ≤ 1000) (hg : 1 ≤ g) (hgm : g ≤ m) : runI tblL lawFuel (n + 5) 11 [.int m, il false ss, .int g] = .ok (.int (msN m ss g), .non) := Ok.eq (by
  rw [ok_run tb11 (n + 4) _ rfl]
  simp only [ir11, List.map_cons, List.map_nil, List.replicate, List.cons_append, List.nil_append]
  simp only [↓vcA, vcB, vcIo, true_and, and_true, Bool.and_self, List.contains_nil, List.contains_cons, Nat.reduceBEq, Bool.or_false, Bool.false_or, if_true, Bool.false_eq_true, if_false, List.map_cons, List.map_nil, wipeE, List.set_cons_zero, List.set_cons_succ, List.cons_append, List.nil_append]
  simp only [↓vcA, vcB, vcIo, true_and, and_true, Bool.and_self, List.contains_nil, List.contains_cons, Nat.reduceBEq, Bool.or_false, Bool.false_or, if_true, Bool.false_eq_true, if_false, List.map_cons, List.map_nil, wipeE, List.set_cons_zero, List.set_cons_succ, List.cons_append, List.nil_append, g_passes n m ss g h1 h40 hs hg hgm, g_missing (n + 2) m ss g h1 h40 (fun s h => (hs s h).1) hl hg (by omega), msL_len])
theorem worst_eq (m : Nat) (ss : List Int) : ((List.range m).map fun (k : Nat) => if (decide (0 < (m : Int) - (1 + (k : Int))) && !(sumsL m ss).contains ((m : Int) - (1 + (k : Int)))) = true then (1 : Int) else 0) = worst m ss := by
  refine List.ext_getElem (by simp [worst]) fun i h1 h2 => ?_
  have hi : i < m := by simpa using h1
  have := worst_at (m := m) (steps := ss) hi
  rw [List.getD_eq_getElem?_getD, List.getElem?_eq_getElem h2, Option.getD_some] at this
  rw [this]
  simp only [List.getElem_map, List.getElem_range, List.contains_eq_mem]
  rw [show (m : Int) - (1 + (i : Int)) = ((m - 1 - i : Nat) : Int) by omega]
  generalize hq : ((m - 1 - i : Nat) : Int) = q
  have q0 : 0 ≤ q := by omega
  by_cases a : q = 0
  · simp [a]
  · by_cases b : q ∈ sumsL m ss
    · simp [b]
    · have : 0 < q := by omega
      simp [a, b, this]
theorem g_slowest (n m : Nat) (ss : List Int) (g : Nat) (h1 : 1 ≤ m) (h40 : m ≤ 40) (hs : ∀ s, s ∈ ss → 1 ≤ s ∧ s ≤ (m : Int)) (hl : ss.length ≤ 1000) (hg : 1 ≤ g) (hgm : g ≤ m) : runI tblL lawFuel (n + 5) 12 [.int m, il false ss, .int g] = .ok (il true (worst m ss), .non) := Ok.eq (by
  rw [ok_run tb12 (n + 4) _ rfl]
  simp only [ir12, List.map_cons, List.map_nil, List.replicate, List.cons_append, List.nil_append]
  simp only [↓vcA, vcB, vcIo, true_and, and_true, Bool.and_self, List.contains_nil, List.contains_cons, Nat.reduceBEq, Bool.or_false, Bool.false_or, if_true, Bool.false_eq_true, if_false, List.map_cons, List.map_nil, wipeE, List.set_cons_zero, List.set_cons_succ, List.cons_append, List.nil_append]
  have hline : line = 16777216 := rfl
  simp only [↓vcA, vcB, vcIo, true_and, and_true, Bool.and_self, List.contains_nil, List.contains_cons, Nat.reduceBEq, Bool.or_false, Bool.false_or, if_true, Bool.false_eq_true, if_false, List.map_cons, List.map_nil, wipeE, List.set_cons_zero, List.set_cons_succ, List.cons_append, List.nil_append, g_passes n m ss g h1 h40 hs hg hgm, g_sumsin (n + 3) m ss h1 h40 (fun s h => (hs s h).1) hl]
  rw [show ((m : Int) + 1 - 1).toNat = m by omega]
  refine ⟨by omega, ?_⟩
  refine ok_compW (fun k => .int (if (decide (0 < (m : Int) - (1 + (k : Int))) && !(sumsL m ss).contains ((m : Int) - (1 + (k : Int)))) = true then (1 : Int) else 0)) (fun k hk => ?_) fun e he => ?_
  · simp only [↓vcA, vcB, vcIo, true_and, and_true, Bool.and_self, List.contains_nil, List.contains_cons, Nat.reduceBEq, Bool.or_false, Bool.false_or, if_true, Bool.false_eq_true, if_false, List.map_cons, List.map_nil, wipeE, List.set_cons_zero, List.set_cons_succ, List.cons_append, List.nil_append, ↓vcT]
    by_cases a : 0 < (m : Int) - (1 + (k : Int))
    · simp only [a, true_implies, not_true_eq_false, false_implies, and_true, decide_true, Bool.true_and]
    · simp only [a, false_implies, not_false_eq_true, true_implies, true_and, decide_false, Bool.false_and, Bool.false_eq_true, if_false]
  · simp only [↓vcA, vcB, vcIo, true_and, and_true, Bool.and_self, List.contains_nil, List.contains_cons, Nat.reduceBEq, Bool.or_false, Bool.false_or, if_true, Bool.false_eq_true, if_false, List.map_cons, List.map_nil, wipeE, List.set_cons_zero, List.set_cons_succ, List.cons_append, List.nil_append] at he
    rw [he, List.nil_append, show D.lst true ((List.range m).map fun (k : Nat) => D.int (if (decide (0 < (m : Int) - (1 + (k : Int))) && !(sumsL m ss).contains ((m : Int) - (1 + (k : Int)))) = true then (1 : Int) else 0)) = il true (worst m ss) by rw [← worst_eq]; unfold il; rw [List.map_map]; rfl]
    simp only [↓vcA, vcB, vcIo, true_and, and_true, Bool.and_self, List.contains_nil, List.contains_cons, Nat.reduceBEq, Bool.or_false, Bool.false_or, if_true, Bool.false_eq_true, if_false, List.map_cons, List.map_nil, wipeE, List.set_cons_zero, List.set_cons_succ, List.cons_append, List.nil_append]
    rw [List.length_map, List.length_range]
    omega)
/-! one sweep -/
theorem stp_t {g : Nat} {t : List Int} {p : Nat} (h : t.getD (p + g) 0 < t.getD p 0) : stp g t p = (t.set p (t.getD (p + g) 0)).set (p + g) (t.getD p 0) := by
  unfold stp
  rw [show min (t.getD p 0) (t.getD (p + g) 0) = t.getD (p + g) 0 by omega, show max (t.getD p 0) (t.getD (p + g) 0) = t.getD p 0 by omega]
theorem set_getD {t : List Int} {p : Nat} (h : p < t.length) : t.set p (t.getD p 0) = t := set_eq (by rw [List.getD_eq_getElem?_getD, List.getElem?_eq_getElem h]; rfl)
theorem stp_f {g : Nat} {t : List Int} {p : Nat} (h : ¬ t.getD (p + g) 0 < t.getD p 0) (hp : p + g < t.length) : stp g t p = t := by
  unfold stp
  rw [show min (t.getD p 0) (t.getD (p + g) 0) = t.getD p 0 by omega, show max (t.getD p 0) (t.getD (p + g) 0) = t.getD (p + g) 0 by omega, set_getD (by omega), set_getD hp]
theorem ix_at {t : List Int} (p : Nat) : ixI t (p : Int) = t.getD p 0 := ixI_nat t p
theorem ix_at2 {t : List Int} (p g : Nat) : ixI t ((p : Int) + (g : Int)) = t.getD (p + g) 0 := by rw [← ixI_nat]; push_cast; rfl
theorem g_swept (n : Nat) (ns : List Int) (g : Nat) (hg : g ≤ 40) (h40 : ns.length ≤ 40) : runI tblL lawFuel (n + 1) 8 [il false ns, .int g] = .ok (il true (sw ns g), .non) := Ok.eq (by
  rw [ok_run tb8 n _ rfl]
  simp only [ir8, List.map_cons, List.map_nil, List.replicate, List.cons_append, List.nil_append]
  simp only [↓vcA, vcB, vcIo, true_and, and_true, Bool.and_self, List.contains_nil, List.contains_cons, Nat.reduceBEq, Bool.or_false, Bool.false_or, if_true, Bool.false_eq_true, if_false, List.map_cons, List.map_nil, wipeE, List.set_cons_zero, List.set_cons_succ, List.cons_append, List.nil_append]
  have hline : line = 16777216 := rfl
  refine ⟨by omega, ?_⟩
  rw [show ((ns.length : Int) - g).toNat = ns.length - g by omega]
  refine ok_forL_st (σ := List Int) (stp g) ns (fun t env => ∃ x, env = [some (il false ns), some (.int g), some (il true t), x] ∧ t.length = ns.length) ⟨_, rfl, rfl⟩ (fun p t env hp ⟨x, he, ht⟩ => ?_) fun env ⟨x, he, ht⟩ => ?_
  · subst he
    have hp := List.mem_range.mp hp
    have o1 : ixOk t.length (p : Int) := ⟨by omega, by omega⟩
    have o2 : ixOk t.length ((p : Int) + (g : Int)) := ⟨by omega, by omega⟩
    simp only [↓vcA, vcB, vcIo, true_and, and_true, Bool.and_self, List.contains_nil, List.contains_cons, Nat.reduceBEq, Bool.or_false, Bool.false_or, if_true, Bool.false_eq_true, if_false, List.map_cons, List.map_nil, wipeE, List.set_cons_zero, List.set_cons_succ, List.cons_append, List.nil_append, ↓vcT, ix_at, ix_at2, o1, o2, List.length_set]
    refine ⟨fun h => ?_, fun h => ?_⟩
    · rw [if_pos (by omega), if_pos (by omega), ← Int.natCast_add, Int.toNat_natCast, Int.toNat_natCast, ← stp_t h]
      exact ⟨_, rfl, by rw [len_stp]; exact ht⟩
    · rw [stp_f h (by omega)]
      exact ⟨_, rfl, ht⟩
  · subst he
    simp only [↓vcA, vcB, vcIo, true_and, and_true, Bool.and_self, List.contains_nil, List.contains_cons, Nat.reduceBEq, Bool.or_false, Bool.false_or, if_true, Bool.false_eq_true, if_false, List.map_cons, List.map_nil, wipeE, List.set_cons_zero, List.set_cons_succ, List.cons_append, List.nil_append]
    rfl)
theorem l_swept (n : Nat) (ns : List Int) (g : Nat) (hg : g ≤ 40) (h40 : ns.length ≤ 40) : runI tblL lawFuel (n + 1) 22 [il false ns, .int g] = .ok (il true (sw ns g), .non) := Ok.eq (by
  rw [ok_run tb22 n _ rfl]
  simp only [ir22, List.map_cons, List.map_nil, List.replicate, List.cons_append, List.nil_append]
  simp only [↓vcA, vcB, vcIo, true_and, and_true, Bool.and_self, List.contains_nil, List.contains_cons, Nat.reduceBEq, Bool.or_false, Bool.false_or, if_true, Bool.false_eq_true, if_false, List.map_cons, List.map_nil, wipeE, List.set_cons_zero, List.set_cons_succ, List.cons_append, List.nil_append]
  have hline : line = 16777216 := rfl
  refine ⟨by omega, ?_⟩
  rw [show ((ns.length : Int) - g).toNat = ns.length - g by omega]
  refine ok_forL_st (σ := List Int) (stp g) ns (fun t env => ∃ x y z, env = [some (il false ns), some (.int g), some (il true t), x, y, z] ∧ t.length = ns.length) ⟨_, _, _, rfl, rfl⟩ (fun p t env hp ⟨x, y, z, he, ht⟩ => ?_) fun env ⟨x, y, z, he, ht⟩ => ?_
  · subst he
    have hp := List.mem_range.mp hp
    have o1 : ixOk t.length (p : Int) := ⟨by omega, by omega⟩
    have o2 : ixOk t.length ((p : Int) + (g : Int)) := ⟨by omega, by omega⟩
    simp only [↓vcA, vcB, vcIo, true_and, and_true, Bool.and_self, List.contains_nil, List.contains_cons, Nat.reduceBEq, Bool.or_false, Bool.false_or, if_true, Bool.false_eq_true, if_false, List.map_cons, List.map_nil, wipeE, List.set_cons_zero, List.set_cons_succ, List.cons_append, List.nil_append, ↓vcT, ix_at, ix_at2, o1, o2, List.length_set]
    rw [if_pos (show (0 : Int) ≤ (p : Int) by omega), if_pos (show (0 : Int) ≤ (p : Int) + (g : Int) by omega), ← Int.natCast_add, Int.toNat_natCast, Int.toNat_natCast]
    rw [show (if t.getD (p + g) 0 < t.getD p 0 then t.getD (p + g) 0 else t.getD p 0) = min (t.getD p 0) (t.getD (p + g) 0) by split <;> omega, show (if t.getD p 0 < t.getD (p + g) 0 then t.getD (p + g) 0 else t.getD p 0) = max (t.getD p 0) (t.getD (p + g) 0) by split <;> omega]
    exact ⟨_, _, _, rfl, by rw [len_stp]; exact ht⟩
  · subst he
    simp only [↓vcA, vcB, vcIo, true_and, and_true, Bool.and_self, List.contains_nil, List.contains_cons, Nat.reduceBEq, Bool.or_false, Bool.false_or, if_true, Bool.false_eq_true, if_false, List.map_cons, List.map_nil, wipeE, List.set_cons_zero, List.set_cons_succ, List.cons_append, List.nil_append]
    rfl)
theorem g_sweep (n : Nat) (ns : List Int) (g : Nat) (h1 : 1 ≤ ns.length) (h40 : ns.length ≤ 40) (hg : 1 ≤ g) (hgm : g ≤ ns.length) : runI tblL lawFuel (n + 4) 13 [il false ns, .int g] = .ok (il true (sw ns g), .non) := Ok.eq (by
  rw [ok_run tb13 (n + 3) _ rfl]
  simp only [ir13, List.map_cons, List.map_nil, List.replicate, List.cons_append, List.nil_append]
  simp only [↓vcA, vcB, vcIo, true_and, and_true, Bool.and_self, List.contains_nil, List.contains_cons, Nat.reduceBEq, Bool.or_false, Bool.false_or, if_true, Bool.false_eq_true, if_false, List.map_cons, List.map_nil, wipeE, List.set_cons_zero, List.set_cons_succ, List.cons_append, List.nil_append]
  simp only [↓vcA, vcB, vcIo, true_and, and_true, Bool.and_self, List.contains_nil, List.contains_cons, Nat.reduceBEq, Bool.or_false, Bool.false_or, if_true, Bool.false_eq_true, if_false, List.map_cons, List.map_nil, wipeE, List.set_cons_zero, List.set_cons_succ, List.cons_append, List.nil_append, f_ckfil (n + 1) ns h1 h40, g_gap n g ns.length (by omega) (by omega), g_swept (n + 2) ns g (by omega) h40])
/-! how many sweeps -/
theorem pick_at (ns : List Int) (g p : Nat) (hg : 0 < g) (hp : p < ns.length) : pickL ns (some ((p : Int).fmod (g : Int))) (some (p : Int)) (some (g : Int)) = (List.range (p / g)).map fun (j : Nat) => ns.getD (p % g + j * g) 0 := by
  have e0 : (p : Int).fmod (g : Int) = ((p % g : Nat) : Int) := by rw [Int.fmod_eq_emod_of_nonneg _ (by omega)]; rfl
  have hr : p % g < g := Nat.mod_lt _ hg
  have hle : p % g ≤ p := Nat.mod_le _ _
  have hb : PySem.sliceBounds (some ((p % g : Nat) : Int)) (some (p : Int)) (some (g : Int)) ns.length = (((p % g : Nat) : Int), (p : Int), (g : Int)) := by
    unfold PySem.sliceBounds
    have h0 : (g : Int) > 0 := by omega
    simp only [Option.getD_some, h0, if_true]
    rw [if_neg (by omega), if_neg (by omega), show max 0 (min ((p % g : Nat) : Int) (ns.length : Int)) = ((p % g : Nat) : Int) by omega, show max 0 (min (p : Int) (ns.length : Int)) = (p : Int) by omega]
  unfold pickL
  rw [e0, hb]
  dsimp only
  have hc : PySem.sliceRange ((p % g : Nat) : Int) (p : Int) (g : Int) = (List.range (p / g)).map fun (j : Nat) => p % g + j * g := by
    unfold PySem.sliceRange
    have h0 : (g : Int) > 0 := by omega
    simp only [h0, if_true]
    have hd := Nat.div_add_mod p g
    have hcount : (if ((p % g : Nat) : Int) < (p : Int) then ((p : Int) - ((p % g : Nat) : Int) + (g : Int) - 1) / (g : Int) else 0).toNat = p / g := by
      by_cases h : p % g < p
      · rw [if_pos (by omega)]
        have e : (p : Int) - ((p % g : Nat) : Int) + (g : Int) - 1 = (((g - 1) + g * (p / g) : Nat) : Int) := by omega
        rw [e, ← Int.natCast_ediv, Int.toNat_natCast, Nat.add_mul_div_left _ _ hg, Nat.div_eq_of_lt (by omega), Nat.zero_add]
      · rw [if_neg (by omega)]
        have : p < g := by omega
        rw [Nat.div_eq_of_lt this]; rfl
    rw [hcount]
    refine List.map_congr_left fun j _ => ?_
    rw [show ((p % g : Nat) : Int) + (g : Int) * (j : Int) = ((p % g + j * g : Nat) : Int) by rw [Nat.mul_comm j g]; push_cast; rfl, Int.toNat_natCast]
  rw [hc, List.filterMap_map]
  have : ∀ l : List Nat, (∀ j, j ∈ l → p % g + j * g < ns.length) → l.filterMap ((fun i => ns[i]?) ∘ fun (j : Nat) => p % g + j * g) = l.map fun (j : Nat) => ns.getD (p % g + j * g) 0 := by
    intro l
    induction l with
    | nil => intro _; rfl
    | cons a l ih =>
      intro h
      have ha := h a List.mem_cons_self
      rw [List.filterMap_cons, List.map_cons, ih fun j hj => h j (List.mem_cons_of_mem _ hj)]
      simp [List.getD_eq_getElem?_getD, List.getElem?_eq_getElem ha]
  refine this _ fun j hj => ?_
  have hj := List.mem_range.mp hj
  have hd := Nat.div_add_mod p g
  have : (j + 1) * g ≤ p / g * g := Nat.mul_le_mul_right g hj
  rw [Nat.succ_mul] at this
  rw [Nat.mul_comm] at hd
  omega
theorem pick_cp (ns : List Int) (g p : Nat) (hg : 0 < g) (hp : p < ns.length) : ((pickL ns (some ((p : Int).fmod (g : Int))) (some (p : Int)) (some (g : Int))).filter fun o => decide (ns.getD p 0 < o)).length = cp ns g p := by
  rw [pick_at ns g p hg hp, ← List.countP_eq_length_filter, List.countP_map]
  unfold cp cn
  have hd := Nat.div_add_mod p g
  rw [Nat.mul_comm] at hd
  have hrev : ((List.range (p / g)).reverse.countP ((fun o => decide (ns.getD p 0 < o)) ∘ fun (j : Nat) => ns.getD (p % g + j * g) 0)) = (List.range (p / g)).countP ((fun o => decide (ns.getD p 0 < o)) ∘ fun (j : Nat) => ns.getD (p % g + j * g) 0) := List.countP_reverse
  rw [← hrev]
  have er : (List.range (p / g)).reverse = (List.range (p / g)).map fun j => p / g - 1 - j := by
    refine List.ext_getElem (by simp) fun i h1 h2 => ?_
    simp
  rw [er, List.countP_map]
  refine List.countP_congr fun j hj => ?_
  have hj := List.mem_range.mp hj
  show decide (ns.getD p 0 < ns.getD (p % g + (p / g - 1 - j) * g) 0) = true ↔ _
  have : p % g + (p / g - 1 - j) * g = p - (j + 1) * g := by
    obtain ⟨c, hc⟩ : ∃ c, p / g = c + (j + 1) := ⟨p / g - (j + 1), by omega⟩
    rw [hc] at hd ⊢
    rw [show c + (j + 1) - 1 - j = c by omega]
    rw [Nat.add_mul] at hd
    omega
  rw [this]
theorem g_sweepsin (n : Nat) (ns : List Int) (g : Nat) (hg : 1 ≤ g) (hg40 : g ≤ 40) (h40 : ns.length ≤ 40) : runI tblL lawFuel (n + 1) 9 [il false ns, .int g] = .ok (.int (cm ns g), .non) := Ok.eq (by
  rw [ok_run tb9 n _ rfl]
  simp only [ir9, List.map_cons, List.map_nil, List.replicate, List.cons_append, List.nil_append]
  simp only [↓vcA, vcB, vcIo, true_and, and_true, Bool.and_self, List.contains_nil, List.contains_cons, Nat.reduceBEq, Bool.or_false, Bool.false_or, if_true, Bool.false_eq_true, if_false, List.map_cons, List.map_nil, wipeE, List.set_cons_zero, List.set_cons_succ, List.cons_append, List.nil_append]
  have hline : line = 16777216 := rfl
  have e0 : (ns.zipIdx.map fun p => D.tup [.int p.2, .int p.1]) = (List.range ns.length).map fun (p : Nat) => D.tup [.int p, .int (ns.getD p 0)] := by
    refine List.ext_getElem (by simp) fun i h1 h2 => ?_
    have hi : i < ns.length := by simpa using h1
    simp [List.getD_eq_getElem?_getD, hi]
  rw [e0]
  refine ok_forL_st (σ := Nat) (fun t p => max t (cp ns g p)) 0 (fun t env => ∃ x y, env = [some (il false ns), some (.int g), some (.int (t : Nat)), x, y, none]) ⟨_, _, rfl⟩ (fun p t env hp ⟨x, y, he⟩ => ?_) fun env ⟨x, y, he⟩ => ?_
  · subst he
    have hp := List.mem_range.mp hp
    have hgz : (g : Int) ≠ 0 := by omega
    simp only [↓vcA, vcB, vcIo, true_and, and_true, Bool.and_self, List.contains_nil, List.contains_cons, Nat.reduceBEq, Bool.or_false, Bool.false_or, if_true, Bool.false_eq_true, if_false, List.map_cons, List.map_nil, wipeE, List.set_cons_zero, List.set_cons_succ, List.cons_append, List.nil_append, ↓vcT, hgz, ne_eq, not_false_eq_true]
    refine ok_compFW (fun o => decide (ns.getD p 0 < o)) .int (fun o ho => ?_) fun e he => ?_
    · simp only [↓vcA, vcB, vcIo, true_and, and_true, Bool.and_self, List.contains_nil, List.contains_cons, Nat.reduceBEq, Bool.or_false, Bool.false_or, if_true, Bool.false_eq_true, if_false, List.map_cons, List.map_nil, wipeE, List.set_cons_zero, List.set_cons_succ, List.cons_append, List.nil_append, ↓vcT]
      by_cases h : ns.getD p 0 < o
      · simp [h]
      · simp [h]
    · simp only [↓vcA, vcB, vcIo, true_and, and_true, Bool.and_self, List.contains_nil, List.contains_cons, Nat.reduceBEq, Bool.or_false, Bool.false_or, if_true, Bool.false_eq_true, if_false, List.map_cons, List.map_nil, wipeE, List.set_cons_zero, List.set_cons_succ, List.cons_append, List.nil_append] at he
      rw [he, List.nil_append]
      have hlen : (pickL ns (some ((p : Int).fmod (g : Int))) (some (p : Int)) (some (g : Int))).length ≤ 40 := by
        rw [pick_at ns g p hg hp, List.length_map, List.length_range]
        have := Nat.div_le_self p g
        omega
      simp only [↓vcA, vcB, vcIo, true_and, and_true, Bool.and_self, List.contains_nil, List.contains_cons, Nat.reduceBEq, Bool.or_false, Bool.false_or, if_true, Bool.false_eq_true, if_false, List.map_cons, List.map_nil, wipeE, List.set_cons_zero, List.set_cons_succ, List.cons_append, List.nil_append, List.length_map, pick_cp ns g p hg hp]
      rw [show (if ((cp ns g p : Nat) : Int) > (t : Int) then ((cp ns g p : Nat) : Int) else (t : Int)) = ((max t (cp ns g p) : Nat) : Int) by split <;> omega]
      exact ⟨by omega, _, _, rfl⟩
  · subst he
    simp only [↓vcA, vcB, vcIo, true_and, and_true, Bool.and_self, List.contains_nil, List.contains_cons, Nat.reduceBEq, Bool.or_false, Bool.false_or, if_true, Bool.false_eq_true, if_false, List.map_cons, List.map_nil, wipeE, List.set_cons_zero, List.set_cons_succ, List.cons_append, List.nil_append]
    rfl)
theorem g_count (n : Nat) (ns : List Int) (g : Nat) (h1 : 1 ≤ ns.length) (h40 : ns.length ≤ 40) (hg : 1 ≤ g) (hgm : g ≤ ns.length) : runI tblL lawFuel (n + 4) 14 [il false ns, .int g] = .ok (.int (cm ns g), .non) := Ok.eq (by
  rw [ok_run tb14 (n + 3) _ rfl]
  simp only [ir14, List.map_cons, List.map_nil, List.replicate, List.cons_append, List.nil_append]
  simp only [↓vcA, vcB, vcIo, true_and, and_true, Bool.and_self, List.contains_nil, List.contains_cons, Nat.reduceBEq, Bool.or_false, Bool.false_or, if_true, Bool.false_eq_true, if_false, List.map_cons, List.map_nil, wipeE, List.set_cons_zero, List.set_cons_succ, List.cons_append, List.nil_append]
  simp only [↓vcA, vcB, vcIo, true_and, and_true, Bool.and_self, List.contains_nil, List.contains_cons, Nat.reduceBEq, Bool.or_false, Bool.false_or, if_true, Bool.false_eq_true, if_false, List.map_cons, List.map_nil, wipeE, List.set_cons_zero, List.set_cons_succ, List.cons_append, List.nil_append, f_ckfil (n + 1) ns h1 h40, g_gap n g ns.length (by omega) (by omega), g_sweepsin (n + 2) ns g hg (by omega) h40])
/-! the law's own -/
theorem l_missing (n m : Nat) (ss : List Int) (g : Nat) (h1 : 1 ≤ m) (h40 : m ≤ 40) (hl : ss.length ≤ 1000) (hg : 1 ≤ g) (hg40 : g ≤ 40) : Ok (runI tblL lawFuel (n + 2) 21 [.int m, il false ss, .int g]) fun r => ∃ ms : List Int, r = (il true ms, .non) ∧ ms.length = msN m ss g := by
  rw [ok_run tb21 (n + 1) _ rfl]
  simp only [ir21, List.map_cons, List.map_nil, List.replicate, List.cons_append, List.nil_append]
  simp only [↓vcA, vcB, vcIo, true_and, and_true, Bool.and_self, List.contains_nil, List.contains_cons, Nat.reduceBEq, Bool.or_false, Bool.false_or, if_true, Bool.false_eq_true, if_false, List.map_cons, List.map_nil, wipeE, List.set_cons_zero, List.set_cons_succ, List.cons_append, List.nil_append]
  have hline : line = 16777216 := rfl
  simp only [↓vcA, vcB, vcIo, true_and, and_true, Bool.and_self, List.contains_nil, List.contains_cons, Nat.reduceBEq, Bool.or_false, Bool.false_or, if_true, Bool.false_eq_true, if_false, List.map_cons, List.map_nil, wipeE, List.set_cons_zero, List.set_cons_succ, List.cons_append, List.nil_append, l_sums n m ss h1 h40 hl]
  rw [show ((m : Int) - 1).toNat = m - 1 by omega]
  refine ⟨by omega, ?_⟩
  refine ok_compFW (fun (k : Nat) => decide ((1 + (k : Int)) * g < (m : Int)) && !(sumsL m ss).contains ((1 + (k : Int)) * g)) (fun k => .int ((1 + (k : Nat)) * g)) (fun k hk => ?_) fun e he => ?_
  · have hk := List.mem_range.mp hk
    simp only [↓vcA, vcB, vcIo, true_and, and_true, Bool.and_self, List.contains_nil, List.contains_cons, Nat.reduceBEq, Bool.or_false, Bool.false_or, if_true, Bool.false_eq_true, if_false, List.map_cons, List.map_nil, wipeE, List.set_cons_zero, List.set_cons_succ, List.cons_append, List.nil_append, ↓vcT]
    have gb : (g : Int).natAbs < 2 ^ 63 := by omega
    have kb : (1 + (k : Int)).natAbs < 2 ^ 63 := by omega
    by_cases a : (1 + (k : Int)) * g < (m : Int)
    · simp only [a, kb, true_or, true_and, true_implies, not_true_eq_false, false_implies, and_true, decide_true, Bool.true_and]
      cases (sumsL m ss).contains ((1 + (k : Int)) * g) <;> simp [brK, kb]
    · simp [a, kb]
  · simp only [↓vcA, vcB, vcIo, true_and, and_true, Bool.and_self, List.contains_nil, List.contains_cons, Nat.reduceBEq, Bool.or_false, Bool.false_or, if_true, Bool.false_eq_true, if_false, List.map_cons, List.map_nil, wipeE, List.set_cons_zero, List.set_cons_succ, List.cons_append, List.nil_append] at he
    generalize hL : (List.range (m - 1)).filter (fun (k : Nat) => decide ((1 + (k : Int)) * g < (m : Int)) && !(sumsL m ss).contains ((1 + (k : Int)) * g)) = L
    rw [he, List.nil_append, show D.lst true (L.map fun (k : Nat) => D.int ((1 + (k : Int)) * g)) = il true (L.map fun (k : Nat) => (1 + (k : Int)) * g) by unfold il; rw [List.map_map]; rfl]
    simp only [↓vcA, vcB, vcIo, true_and, and_true, Bool.and_self, List.contains_nil, List.contains_cons, Nat.reduceBEq, Bool.or_false, Bool.false_or, if_true, Bool.false_eq_true, if_false, List.map_cons, List.map_nil, wipeE, List.set_cons_zero, List.set_cons_succ, List.cons_append, List.nil_append]
    refine ⟨by rw [List.length_map, List.length_range]; omega, _, rfl, ?_⟩
    rw [List.length_map, ← hL, ← List.countP_eq_length_filter]
    unfold msN
    have hq : (m - 1) / g ≤ m - 1 := Nat.div_le_self _ _
    obtain ⟨c, hc⟩ : ∃ c, m - 1 = (m - 1) / g + c := ⟨m - 1 - (m - 1) / g, by omega⟩
    have hsplit : List.range (m - 1) = List.range ((m - 1) / g) ++ (List.range c).map (fun i => (m - 1) / g + i) := by
      conv => lhs; rw [hc]
      rw [List.range_add]
    rw [hsplit, List.countP_append]
    have z : ((List.range c).map (fun i => (m - 1) / g + i)).countP (fun (k : Nat) => decide ((1 + (k : Int)) * g < (m : Int)) && !(sumsL m ss).contains ((1 + (k : Int)) * g)) = 0 := by
      rw [List.countP_eq_zero]
      intro k hk
      obtain ⟨i, _, rfl⟩ := List.mem_map.mp hk
      have : m - 1 < ((m - 1) / g + i + 1) * g := by
        have a := Nat.div_add_mod (m - 1) g
        have b := Nat.mod_lt (m - 1) (show 0 < g by omega)
        rw [Nat.mul_comm] at a
        have : ((m - 1) / g + 1) * g ≤ ((m - 1) / g + i + 1) * g := Nat.mul_le_mul_right g (by omega)
        rw [Nat.succ_mul ((m - 1) / g)] at this
        omega
      have h2 : ¬ ((1 + (((m - 1) / g + i : Nat) : Int)) * g < (m : Int)) := by
        rw [show (1 + (((m - 1) / g + i : Nat) : Int)) * (g : Int) = ((((m - 1) / g + i + 1) * g : Nat) : Int) by push_cast; rw [Int.add_comm 1]]
        omega
      exact fun hz => h2 (by
        rw [Bool.and_eq_true, decide_eq_true_eq] at hz
        exact hz.1)
    rw [z, Nat.add_zero]
    refine List.countP_congr fun j hj => ?_
    have hj := List.mem_range.mp hj
    have h3 : (j + 1) * g ≤ m - 1 := by
      have a := Nat.div_mul_le_self (m - 1) g
      have : (j + 1) * g ≤ (m - 1) / g * g := Nat.mul_le_mul_right g hj
      omega
    rw [show (1 + (j : Int)) * (g : Int) = (((j + 1) * g : Nat) : Int) by push_cast; rw [Int.add_comm 1]]
    rw [decide_eq_true (show (((j + 1) * g : Nat) : Int) < (m : Int) by omega), Bool.true_and]
theorem l_count (n : Nat) (ns : List Int) (o : Bool) (g : Nat) (hg : 1 ≤ g) (hg40 : g ≤ 40) (h40 : ns.length ≤ 40) : runI tblL lawFuel (n + 2) 24 [il o ns, .int g] = .ok (.int (cm ns g), .non) := Ok.eq (by
  rw [ok_run tb24 (n + 1) _ rfl]
  simp only [ir24, List.map_cons, List.map_nil, List.replicate, List.cons_append, List.nil_append]
  simp only [↓vcA, vcB, vcIo, true_and, and_true, Bool.and_self, List.contains_nil, List.contains_cons, Nat.reduceBEq, Bool.or_false, Bool.false_or, if_true, Bool.false_eq_true, if_false, List.map_cons, List.map_nil, wipeE, List.set_cons_zero, List.set_cons_succ, List.cons_append, List.nil_append]
  have hline : line = 16777216 := rfl
  refine ⟨by omega, ?_⟩
  rw [show ((ns.length : Int) + 1).toNat = ns.length + 1 by omega]
  refine ok_forL (fun r env => ∃ (t : List Int) (o : Bool) (x : Option D), env = [some (il o t), some (.int g), x] ∧ t.length = ns.length ∧ cm t g + (ns.length + 1 - r.length) = cm ns g ∧ r.length ≤ ns.length + 1) ⟨ns, _, _, rfl, rfl, by simp, by simp⟩ (fun k r env hd h => ?_) fun env h => ?_
  · obtain ⟨t, o, x, he, ht, hc, hr⟩ := h
    subst he
    obtain ⟨d, hd⟩ := hd
    have hlen : d.length + (r.length + 1) = ns.length + 1 := by
      have := congrArg List.length hd
      simpa using this
    have hk : k = d.length := by
      have a : (d ++ k :: r)[d.length]? = some k := by simp
      rw [hd, List.getElem?_range (by omega)] at a
      simpa using a.symm
    rw [List.length_cons] at hc hr
    have lo := l_order n t g hg40 (by omega)
    have ls := l_swept n t g hg40 (by omega)
    simp only [↓vcA, vcB, vcIo, true_and, and_true, Bool.and_self, List.contains_nil, List.contains_cons, Nat.reduceBEq, Bool.or_false, Bool.false_or, if_true, Bool.false_eq_true, if_false, List.map_cons, List.map_nil, wipeE, List.set_cons_zero, List.set_cons_succ, List.cons_append, List.nil_append, ↓vcT, lo, ls]
    refine ⟨fun h => ?_, fun h => ?_⟩
    · have := (cm_ord (x := t) (g := g) (by omega)).mp h
      rw [show ((k : Nat) : Int) = ((cm ns g : Nat) : Int) by omega]
    · have : ¬ cm t g = 0 := fun z => h ((cm_ord (x := t) (g := g) (by omega)).mpr z)
      refine ⟨sw t g, _, _, rfl, by rw [len_sw]; exact ht, ?_, by omega⟩
      rw [cm_sw (by omega)]
      omega
  · obtain ⟨t, o, x, he, ht, hc, hr⟩ := h
    have := cm_len ns (g := g) (by omega)
    simp at hc
    omega)
end KS
set_option Elab.async false
set_option linter.all false
set_option maxRecDepth 100000
namespace KS
open PySem L2
theorem mem_stp {g p : Nat} {t : List Int} (hp : p + g < t.length) {v : Int} (h : v ∈ stp g t p) : v ∈ t := by
  have ga : ∀ i, i < t.length → t.getD i 0 ∈ t := fun i hi => by
    rw [List.getD_eq_getElem?_getD, List.getElem?_eq_getElem hi]; exact List.getElem_mem hi
  have a := ga p (by omega)
  have b := ga (p + g) hp
  have e : min (t.getD p 0) (t.getD (p + g) 0) ∈ t := by
    by_cases h : t.getD p 0 ≤ t.getD (p + g) 0
    · rw [Int.min_eq_left h]; exact a
    · rw [Int.min_eq_right (by omega)]; exact b
  have f : max (t.getD p 0) (t.getD (p + g) 0) ∈ t := by
    by_cases h : t.getD p 0 ≤ t.getD (p + g) 0
    · rw [Int.max_eq_right h]; exact b
    · rw [Int.max_eq_left (by omega)]; exact a
  unfold stp at h
  rcases List.mem_or_eq_of_mem_set h with h | rfl
  · rcases List.mem_or_eq_of_mem_set h with h | rfl
    · exact h
    · exact e
  · exact f
theorem mem_sw {g : Nat} {x : List Int} {v : Int} (h : v ∈ sw x g) : v ∈ x := by
  unfold sw at h
  have : ∀ (l : List Nat) (t : List Int), (∀ p, p ∈ l → p + g < t.length) → v ∈ l.foldl (stp g) t → v ∈ t := by
    intro l
    induction l with
    | nil => intro t _ h; exact h
    | cons p l ih =>
      intro t hl h
      rw [List.foldl_cons] at h
      exact mem_stp (hl p List.mem_cons_self) (ih _ (fun q hq => by rw [len_stp]; exact hl q (List.mem_cons_of_mem _ hq)) h)
  exact this _ _ (fun p hp => by have := List.mem_range.mp hp; omega) h
theorem l_one (n : Nat) (ns : List Int) (g : Nat) (h1 : 1 ≤ ns.length) (h40 : ns.length ≤ 40) (hb : bnd ns) (hg : 1 ≤ g) (hgm : g ≤ ns.length) : runI tblL lawFuel (n + 5) 25 [il false ns, .int g] = .ok (.bl true, .non) := Ok.eq (by
  have bS : bnd (sw ns g) := fun v hv => hb v (mem_sw hv)
  have lS := len_sw ns g
  have kS : ∀ h, 0 < h → inOrd ns h → inOrd (sw ns g) h := fun h _ ho => sw_keeps (by omega) ho
  have cS := cm_sw (x := ns) (g := g) (by omega)
  have cl := cm_len ns (g := g) (by omega)
  have g1 := g_sweep n ns g h1 h40 hg hgm
  have g2 := l_swept (n + 3) ns g (by omega) h40
  have g3 := l_count (n + 2) ns false g hg (by omega) h40
  have g4 := g_count n ns g h1 h40 hg hgm
  have g5 := g_count n (sw ns g) g (by omega) (by omega) hg (by omega)
  generalize sw ns g = S at *
  generalize cm S g = C2 at *
  generalize cm ns g = C at *
  have bC : bnd [(C : Int), (C : Int)] := bnd_sm fun v hv => by
    have : v = (C : Int) := by simpa using hv
    omega
  have r1 : reprOk (il false ns) = true := rp_ok (rp_il false hb 15 (Nat.le_refl _)) (by omega)
  have r2 : reprOk (.lst true [il true S, il true S]) = true := rp_ok (rp_2 true (rp_il true bS 14 (Nat.le_refl _)) (rp_il true bS 14 (Nat.le_refl _))) (by omega)
  have r3 : reprOk (.lst true [il false S, il false S]) = true := rp_ok (rp_2 true (rp_il false bS 14 (Nat.le_refl _)) (rp_il false bS 14 (Nat.le_refl _))) (by omega)
  have r4 : reprOk (il true S) = true := rp_ok (rp_il true bS 15 (Nat.le_refl _)) (by omega)
  have r5 : reprOk (il false S) = true := rp_ok (rp_il false bS 15 (Nat.le_refl _)) (by omega)
  have r6 : reprOk (il true [(C : Int), (C : Int)]) = true := rp_ok (rp_il true bC 15 (Nat.le_refl _)) (by simp)
  have e1 : ∀ o, (toPy (.lst true [il o S, il o S])).shown = (toPy (.lst true [il false S, il false S])).shown := fun _ => id rfl
  have e2 : ∀ o, (toPy (il o S)).shown = (toPy (il false S)).shown := fun _ => id rfl
  have nf : noOwn (frz (il true S)) = true := by rw [frz_il]; exact noOwn_il _
  rw [ok_run tb25 (n + 4) _ rfl]
  simp only [ir25, List.map_cons, List.map_nil, List.replicate, List.cons_append, List.nil_append]
  simp only [↓vcA, vcB, vcIo, true_and, and_true, Bool.and_self, List.contains_nil, List.contains_cons, Nat.reduceBEq, Bool.or_false, Bool.false_or, if_true, Bool.false_eq_true, if_false, List.map_cons, List.map_nil, wipeE, List.set_cons_zero, List.set_cons_succ, List.cons_append, List.nil_append]
  have hline : line = 16777216 := rfl
  simp only [↓vcA, vcB, vcIo, true_and, and_true, Bool.and_self, List.contains_nil, List.contains_cons, Nat.reduceBEq, Bool.or_false, Bool.false_or, if_true, Bool.false_eq_true, if_false, List.map_cons, List.map_nil, wipeE, List.set_cons_zero, List.set_cons_succ, List.cons_append, List.nil_append, vrepr_ok r1, g1, g2, g3, vrepr_ok r2, vrepr_ok r3, vrepr_ok r4, vrepr_ok r5, vmul_frz1 (x := il true S) rfl nf 2 (by decide) (by decide), rep_2, frzAll_nil, e1, e2, beq_self_eq_true, Bool.not_true, appP_c, appP_ilN, vix_frz1 (x := il true S) rfl nf, frzAll, frzAt, List.getElem?_cons_succ, List.getElem?_cons_zero]
  refine ⟨by omega, by omega, ?_⟩
  rw [nums_D]
  generalize hT : frz (D.lst true _) = T
  generalize hB : (toPy (il false ns)).shown = B
  refine ok_forL (fun r env => ∃ (x : Option D), env = [some (il false ns), some (.int g), some (.str B), some (.int C), some T, some (il true S), x, none]) ⟨none, rfl⟩ (fun f r env hd h => ?_) fun env h => ?_
  · obtain ⟨x, he⟩ := h
    subst he
    obtain ⟨d, hd⟩ := hd
    obtain ⟨f1, f2⟩ := mem_nums.mp (show f ∈ nums ns.length by rw [← hd]; simp)
    obtain ⟨k, rfl⟩ : ∃ k : Nat, f = (k : Int) := ⟨f.toNat, by omega⟩
    have q1 := l_order (n + 3) ns k (by omega) h40
    have q2 := l_order (n + 3) S k (by omega) (by omega)
    simp only [↓vcA, vcB, vcIo, true_and, and_true, Bool.and_self, List.contains_nil, List.contains_cons, Nat.reduceBEq, Bool.or_false, Bool.false_or, if_true, Bool.false_eq_true, if_false, List.map_cons, List.map_nil, wipeE, List.set_cons_zero, List.set_cons_succ, List.cons_append, List.nil_append, ↓vcT, q1, q2]
    by_cases a : inOrd ns k
    · have b := kS k (by omega) a
      simp [a, b]
    · simp [a]
  · obtain ⟨x, he⟩ := h
    subst he
    have ec : ((C2 : Int) = if (C : Int) - 1 > 0 then (C : Int) - 1 else 0) = True := eq_true (by split <;> omega)
    simp only [↓vcA, vcB, vcIo, true_and, and_true, Bool.and_self, List.contains_nil, List.contains_cons, Nat.reduceBEq, Bool.or_false, Bool.false_or, if_true, Bool.false_eq_true, if_false, List.map_cons, List.map_nil, wipeE, List.set_cons_zero, List.set_cons_succ, List.cons_append, List.nil_append, g4, g5, vrepr_ok r6, vrepr_ok r1, hB, beq_self_eq_true, Bool.not_true, ec, decide_true])
/-! needed -/
theorem fl_two (a b : List Int) : D.lst true [il true a, il true b] = fl true [a, b] := id rfl
theorem vix1_of {a b : D} (h : noOwn b = true) (o : Bool) (ln : List Nat) (env : Env) (Q : D × Env → Prop) : opK .ix ln [.lst o [a, b], .int 1] env Q = Q (b, env) := by
  have e : prim .ix [.lst o [a, b], .int 1] = .ok b := by
    show getIx [a, b] 1 = _
    unfold getIx
    rw [show atI [a, b] 1 = some b from rfl]
    dsimp only
    rw [if_pos h]
  unfold opK opR
  rw [e]; rfl
theorem frz_lst2 (a b : D) : frz (.lst true [a, b]) = .lst false [frz a, frz b] := id rfl
theorem passL_snoc (m : Nat) (d : List Int) (s : Int) (t : List Int) : passL m (d ++ [s]) t = sortIn (passL m d t) (gapFam m s.toNat) := by
  unfold passL
  rw [List.foldl_append]; rfl
theorem d_needed (n M m : Nat) (ss : List Int) (g : Nat) (h1 : 1 ≤ m) (h40 : m ≤ 40) (hs : ∀ s, s ∈ ss → 1 ≤ s ∧ s ≤ (m : Int)) (hl : ss.length ≤ 1000) (hg : 1 ≤ g) (hgm : g ≤ m) (st : D) (hd : Dw (M + m + 2) st) : Ok (runI tblL lawFuel (n + 6) 26 [st, .int m, il false ss, .int g]) fun r => Dw M r.2 ∧ r.1 = .bl true := by
  have hs1 : ∀ s, s ∈ ss → 1 ≤ s := fun s h => (hs s h).1
  have wl := worst_len m ss
  have wo : ∀ s, s ∈ ss → inOrd (worst m ss) s.toNat := fun s h => worst_ord hs1 h
  have wc := cm_worst (ss := ss) (g := g) (m := m) (by omega) (by omega) hs1
  have wv : ∀ v, v ∈ worst m ss → v = 0 ∨ v = 1 := fun v hv => by
    obtain ⟨i, hi, e⟩ := List.mem_iff_getElem.mp hv
    have := worst_at (m := m) (steps := ss) (i := i) (by omega)
    rw [List.getD_eq_getElem?_getD, List.getElem?_eq_getElem hi, Option.getD_some, e] at this
    rw [this]
    split
    · exact .inl rfl
    · exact .inr rfl
  have bW : bnd (worst m ss) := bnd_sm fun v hv => by rcases wv v hv with rfl | rfl <;> decide
  have hcm : ∀ x : List Int, x.length = m → (∀ s, s ∈ ss → inOrd x s.toNat) → cm x g ≤ msN m ss g := fun x hx ho => by
    have := cm_need (x := x) (ss := ss) (g := g) (by omega) hs1 ho
    rwa [hx] at this
  have hmn : msN m ss g ≤ 1000000 := by
    unfold msN
    refine Nat.le_trans List.countP_le_length ?_
    rw [List.length_range]
    have := Nat.div_le_self (m - 1) g
    omega
  have g1 := g_needed n m ss g h1 h40 hs hl hg hgm
  have g2 := g_slowest n m ss g h1 h40 hs hl hg hgm
  obtain ⟨r, e3, ms, er, hms⟩ := (l_missing (n + 3) m ss g h1 h40 hl hg (by omega)).elim
  subst er
  have g4 := l_count (n + 3) (worst m ss) false g hg (by omega) (by omega)
  rw [wc] at g4
  have bs : bnd ss := bnd_sm fun v hv => by have := hs v hv; omega
  generalize worst m ss = W at *
  generalize msN m ss g = N at *
  have bN : bnd [(N : Int), (N : Int)] := bnd_sm fun v hv => by
    have : v = (N : Int) := by simpa using hv
    omega
  have r1 : reprOk (il false ss) = true := rp_ok (rp_il false bs 15 (Nat.le_refl _)) (by omega)
  have r2 : ∀ o, reprOk (il o [(N : Int), (N : Int)]) = true := fun o => rp_ok (rp_il o bN 15 (Nat.le_refl _)) (by simp)
  have r3 : reprOk (il false W) = true := rp_ok (rp_il false bW 15 (Nat.le_refl _)) (by omega)
  have r4 : reprOk (il true W) = true := rp_ok (rp_il true bW 15 (Nat.le_refl _)) (by omega)
  have e1 : ∀ o, (toPy (il o [(N : Int), (N : Int)])).shown = (toPy (il false [(N : Int), (N : Int)])).shown := fun _ => id rfl
  have e2 : ∀ o, (toPy (il o W)).shown = (toPy (il false W)).shown := fun _ => id rfl
  have i0 : ixT [W, W] 0 [] = W := id rfl
  have i1 : ixT [W, W] 1 [] = W := id rfl
  have o0 : ixOk [W, W].length 0 := ⟨by simp, by simp⟩
  have o1 : ixOk [W, W].length 1 := ⟨by simp, by simp⟩
  have fst : ∀ K, fzK st K = K (frz st) := fun _ => rfl
  rw [ok_run tb26 (n + 5) _ rfl]
  simp only [ir26, List.map_cons, List.map_nil, List.replicate, List.cons_append, List.nil_append]
  simp only [↓vcA, vcB, vcIo, true_and, and_true, Bool.and_self, List.contains_nil, List.contains_cons, Nat.reduceBEq, Bool.or_false, Bool.false_or, if_true, Bool.false_eq_true, if_false, List.map_cons, List.map_nil, wipeE, List.set_cons_zero, List.set_cons_succ, List.cons_append, List.nil_append]
  have hline : line = 16777216 := rfl
  simp only [↓vcA, vcB, vcIo, true_and, and_true, Bool.and_self, List.contains_nil, List.contains_cons, Nat.reduceBEq, Bool.or_false, Bool.false_or, if_true, Bool.false_eq_true, if_false, List.map_cons, List.map_nil, wipeE, List.set_cons_zero, List.set_cons_succ, List.cons_append, List.nil_append, vrepr_ok r1, g1, g2, e3, hms, vrepr_ok (r2 true), vrepr_ok (r2 false), e1, beq_self_eq_true, Bool.not_true, fl_two, i0, i1, o0, o1, vrepr_ok r3, e2, wl, fst]
  refine ⟨fun _ => ?_, fun z => absurd trivial z⟩
  refine ok_compFW (fun _ => false) .int (fun w hw => ?_) fun e he => ?_
  · simp only [↓vcA, vcB, vcIo, true_and, and_true, Bool.and_self, List.contains_nil, List.contains_cons, Nat.reduceBEq, Bool.or_false, Bool.false_or, if_true, Bool.false_eq_true, if_false, List.map_cons, List.map_nil, wipeE, List.set_cons_zero, List.set_cons_succ, List.cons_append, List.nil_append, ↓vcT]
  · simp only [↓vcA, vcB, vcIo, true_and, and_true, Bool.and_self, List.contains_nil, List.contains_cons, Nat.reduceBEq, Bool.or_false, Bool.false_or, if_true, Bool.false_eq_true, if_false, List.map_cons, List.map_nil, wipeE, List.set_cons_zero, List.set_cons_succ, List.cons_append, List.nil_append] at he
    rw [he, List.nil_append, show W.filter (fun _ => false) = [] by rw [List.filter_eq_nil_iff]; simp]
    simp only [↓vcA, vcB, vcIo, true_and, and_true, Bool.and_self, List.contains_nil, List.contains_cons, Nat.reduceBEq, Bool.or_false, Bool.false_or, if_true, Bool.false_eq_true, if_false, List.map_cons, List.map_nil, wipeE, List.set_cons_zero, List.set_cons_succ, List.cons_append, List.nil_append, wl, fst, fl_two, i0, o0]
    refine ⟨by rw [List.length_map]; omega, fun _ => ?_, fun z => absurd trivial z⟩
    refine ok_compFW (fun s => !decide (inOrd W s.toNat)) .int (fun s hss => ?_) fun e he => ?_
    · obtain ⟨s1, s2⟩ := hs s hss
      obtain ⟨k, rfl⟩ : ∃ k : Nat, s = (k : Int) := ⟨s.toNat, by omega⟩
      simp only [↓vcA, vcB, vcIo, true_and, and_true, Bool.and_self, List.contains_nil, List.contains_cons, Nat.reduceBEq, Bool.or_false, Bool.false_or, if_true, Bool.false_eq_true, if_false, List.map_cons, List.map_nil, wipeE, List.set_cons_zero, List.set_cons_succ, List.cons_append, List.nil_append, ↓vcT, l_order (n + 4) W k (by omega) (by omega), i0, o0]
      rw [Int.toNat_natCast]
      by_cases h : inOrd W k
      · simp [h]
      · simp [h]
    · simp only [↓vcA, vcB, vcIo, true_and, and_true, Bool.and_self, List.contains_nil, List.contains_cons, Nat.reduceBEq, Bool.or_false, Bool.false_or, if_true, Bool.false_eq_true, if_false, List.map_cons, List.map_nil, wipeE, List.set_cons_zero, List.set_cons_succ, List.cons_append, List.nil_append] at he
      have e5 : ss.filter (fun s => !decide (inOrd W s.toNat)) = [] := by
        rw [List.filter_eq_nil_iff]
        intro s hss
        simp [wo s hss]
      rw [he, List.nil_append, e5]
      simp only [↓vcA, vcB, vcIo, true_and, and_true, Bool.and_self, List.contains_nil, List.contains_cons, Nat.reduceBEq, Bool.or_false, Bool.false_or, if_true, Bool.false_eq_true, if_false, List.map_cons, List.map_nil, wipeE, List.set_cons_zero, List.set_cons_succ, List.cons_append, List.nil_append, g4, i0, o0, decide_true, Bool.not_true, appP_cf, appP_ilN]
      refine ⟨by rw [List.length_map]; omega, by omega, ?_⟩
      generalize D.lst true (List.map D.int W ++ [D.non]) = X
      have hf : ∀ K, fzK (.lst true [X, il true W]) K = K (.lst false [frz X, il false W]) := fun K => by
        unfold fzK
        rw [frz_lst2, frz_il]
      simp only [↓vcA, vcB, vcIo, true_and, and_true, Bool.and_self, List.contains_nil, List.contains_cons, Nat.reduceBEq, Bool.or_false, Bool.false_or, if_true, Bool.false_eq_true, if_false, List.map_cons, List.map_nil, wipeE, List.set_cons_zero, List.set_cons_succ, List.cons_append, List.nil_append, hf, fst, g2, vix1_of (a := frz X) (noOwn_il W), vrepr_ok r4, vrepr_ok r3, e2, beq_self_eq_true, Bool.not_true]
      refine (d_load (n + 3) M m h1 h40 st hd).mono fun q hq => ?_
      obtain ⟨D1, ns, hq1, hln, hbn⟩ := hq
      obtain ⟨q1, st1⟩ := q
      dsimp only at hq1 D1
      subst hq1
      simp only [↓vcA, vcB, vcIo, true_and, and_true, Bool.and_self, List.contains_nil, List.contains_cons, Nat.reduceBEq, Bool.or_false, Bool.false_or, if_true, Bool.false_eq_true, if_false, List.map_cons, List.map_nil, wipeE, List.set_cons_zero, List.set_cons_succ, List.cons_append, List.nil_append, D1.flat]
      generalize (toPy (il false ss)).shown = B
      generalize D.lst true [X, il true W] = Y
      refine ok_forL (fun r env => ∃ (t : List Int) (o : Bool) (x : Option D), env = [some st1, some (.int m), some (il false ss), some (.int g), some (.str B), some (.int N), some (il true [(N : Int), (N : Int)]), some Y, some (il o t), x] ∧ t.length = m ∧ bnd t ∧ ∀ s, s ∈ ss → s ∈ r ∨ inOrd t s.toNat) ⟨ns, true, _, rfl, hln, hbn, fun s h => .inl h⟩ (fun s r env hd h => ?_) fun env h => ?_
      · obtain ⟨t, o, x, he, ht, hbt, hor⟩ := h
        obtain ⟨d, hd⟩ := hd
        have hss : s ∈ ss := by rw [← hd]; simp
        obtain ⟨s1, s2⟩ := hs s hss
        obtain ⟨k, rfl⟩ : ∃ k : Nat, s = (k : Int) := ⟨s.toNat, by omega⟩
        have okg := gapFam_ok (m := m) (s := k) (by omega) h40
        subst he
        simp only [↓vcA, vcB, vcIo, true_and, and_true, Bool.and_self, List.contains_nil, List.contains_cons, Nat.reduceBEq, Bool.or_false, Bool.false_or, if_true, Bool.false_eq_true, if_false, List.map_cons, List.map_nil, wipeE, List.set_cons_zero, List.set_cons_succ, List.cons_append, List.nil_append, ↓vcT, l_gaplot (n + 4) m k (by omega) h1 h40 (by omega), l_sorted (n + 4) t (gapFam m k) (by rw [ht]; exact okF_of okg)]
        refine ⟨sortIn t (gapFam m k), true, _, rfl, by rw [len_sortIn]; exact ht, bnd_sortIn (okF_of (by rw [ht]; exact okg)) hbt, fun s h => ?_⟩
        rcases hor s h with h | h
        · rcases List.mem_cons.mp h with rfl | h
          · right
            have := gap_does (ns := t) (s := k) (by omega) (by omega)
            rwa [ht] at this
          · exact .inl h
        · right
          have := hs s ‹_›
          have := gap_keeps (ns := t) (s := k) (h := s.toNat) (by omega) (by omega) (by omega) h
          rwa [ht] at this
      · obtain ⟨t, o, x, he, ht, hbt, hor⟩ := h
        have ho : ∀ s, s ∈ ss → inOrd t s.toNat := fun s h => (hor s h).resolve_left (by simp)
        have hc := hcm t ht ho
        subst he
        simp only [↓vcA, vcB, vcIo, true_and, and_true, Bool.and_self, List.contains_nil, List.contains_cons, Nat.reduceBEq, Bool.or_false, Bool.false_or, if_true, Bool.false_eq_true, if_false, List.map_cons, List.map_nil, wipeE, List.set_cons_zero, List.set_cons_succ, List.cons_append, List.nil_append, g_count (n + 1) t g (by omega) (by omega) hg (by omega), l_one n t g (by omega) (by omega) hbt hg (by omega)]
        exact ⟨fun _ => D1, fun z => absurd (by omega) z⟩
/-! all fillings by 0 and 1 -/
def smF (m : Nat) (ss : List Int) (g : Nat) (k : Nat) : Nat := if (∀ s, s ∈ ss → inOrd (bits m k) s.toNat) then cm (bits m k) g else 0
theorem small_most (m : Nat) (ss : List Int) (g : Nat) (h1 : 1 ≤ m) (hs : ∀ s, s ∈ ss → 1 ≤ s) (hg : 1 ≤ g) : (List.range (2 ^ m)).foldl (fun t k => max t (smF m ss g k)) 0 = msN m ss g := by
  obtain ⟨a, b, c⟩ := fold_max (smF m ss g) (List.range (2 ^ m)) 0
  have hle : ∀ k, smF m ss g k ≤ msN m ss g := fun k => by
    unfold smF
    split
    · rename_i h
      have := cm_need (x := bits m k) (ss := ss) (g := g) (by omega) hs h
      rwa [bits_len] at this
    · omega
  refine Nat.le_antisymm ?_ ?_
  · rcases c with c | ⟨p, _, c⟩
    · rw [c]; omega
    · rw [c]; exact hle p
  · have wl := worst_len m ss
    obtain ⟨k, hk, e⟩ := bits_all (worst m ss) fun v hv => by
      obtain ⟨i, hi, e⟩ := List.mem_iff_getElem.mp hv
      have := worst_at (m := m) (steps := ss) (i := i) (by omega)
      rw [List.getD_eq_getElem?_getD, List.getElem?_eq_getElem hi, Option.getD_some, e] at this
      rw [this]
      split
      · exact .inl rfl
      · exact .inr rfl
    rw [wl] at hk e
    have := a k (List.mem_range.mpr hk)
    unfold smF at this
    rw [e, if_pos fun s h => worst_ord hs h, cm_worst (by omega) (by omega) hs] at this
    exact this
theorem l_small (n m : Nat) (ss : List Int) (g : Nat) (h1 : 1 ≤ m) (h9 : m ≤ 9) (hs : ∀ s, s ∈ ss → 1 ≤ s ∧ s ≤ (m : Int)) (hl : ss.length ≤ 1000) (hg : 1 ≤ g) (hgm : g ≤ m) : runI tblL lawFuel (n + 6) 27 [.int m, il false ss, .int g] = .ok (.bl true, .non) := Ok.eq (by
  have hs1 : ∀ s, s ∈ ss → 1 ≤ s := fun s h => (hs s h).1
  have h40 : m ≤ 40 := by omega
  have hpow : 2 ^ m ≤ 512 := Nat.pow_le_pow_right (n := 2) (by decide) h9
  have hm := small_most m ss g h1 hs1 hg
  have g1 := g_needed n m ss g h1 h40 hs hl hg hgm
  rw [ok_run tb27 (n + 5) _ rfl]
  simp only [ir27, List.map_cons, List.map_nil, List.replicate, List.cons_append, List.nil_append]
  simp only [↓vcA, vcB, vcIo, true_and, and_true, Bool.and_self, List.contains_nil, List.contains_cons, Nat.reduceBEq, Bool.or_false, Bool.false_or, if_true, Bool.false_eq_true, if_false, List.map_cons, List.map_nil, wipeE, List.set_cons_zero, List.set_cons_succ, List.cons_append, List.nil_append]
  have hline : line = 16777216 := rfl
  have e2 : (1 : Int) * 2 ^ (m : Int).toNat = ((2 ^ m : Nat) : Int) := by push_cast; simp
  rw [e2]
  generalize hP : 2 ^ m = P at hpow hm
  have e3 : (List.range ((P : Nat) : Int).toNat).map (fun k => D.int (k : Nat)) = (List.range P).map fun k => D.int (k : Nat) := by rw [Int.toNat_natCast]
  rw [e3]
  refine ⟨⟨by omega, by decide⟩, by omega, ?_⟩
  refine ok_forL_st (σ := Nat) (fun t k => max t (smF m ss g k)) 0 (fun t env => ∃ (x y : Option D), env = [some (.int m), some (il false ss), some (.int g), some (.int (t : Nat)), x, y, none, none]) ⟨_, _, rfl⟩ (fun k t env hk h => ?_) fun env h => ?_
  · obtain ⟨x, y, he⟩ := h
    subst he
    simp only [↓vcA, vcB, vcIo, true_and, and_true, Bool.and_self, List.contains_nil, List.contains_cons, Nat.reduceBEq, Bool.or_false, Bool.false_or, if_true, Bool.false_eq_true, if_false, List.map_cons, List.map_nil, wipeE, List.set_cons_zero, List.set_cons_succ, List.cons_append, List.nil_append, ↓vcT]
    refine ⟨by omega, ?_⟩
    refine ok_compW (fun (u : Nat) => .int (((k : Int) / 2 ^ u).fmod 2)) (fun u ha => ?_) fun e he => ?_
    · simp only [↓vcA, vcB, vcIo, true_and, and_true, Bool.and_self, List.contains_nil, List.contains_cons, Nat.reduceBEq, Bool.or_false, Bool.false_or, if_true, Bool.false_eq_true, if_false, List.map_cons, List.map_nil, wipeE, List.set_cons_zero, List.set_cons_succ, List.cons_append, List.nil_append, ↓vcT]
      exact ⟨by omega, by decide, rfl⟩
    · simp only [↓vcA, vcB, vcIo, true_and, and_true, Bool.and_self, List.contains_nil, List.contains_cons, Nat.reduceBEq, Bool.or_false, Bool.false_or, if_true, Bool.false_eq_true, if_false, List.map_cons, List.map_nil, wipeE, List.set_cons_zero, List.set_cons_succ, List.cons_append, List.nil_append] at he
      rw [he, List.nil_append]
      refine ⟨by simp; omega, ?_⟩
      rw [show D.lst true ((List.range (m : Int).toNat).map fun (u : Nat) => D.int (((k : Int) / 2 ^ u).fmod 2)) = il true (bits m k) by unfold il bits; rw [List.map_map]; rfl]
      simp only [↓vcA, vcB, vcIo, true_and, and_true, Bool.and_self, List.contains_nil, List.contains_cons, Nat.reduceBEq, Bool.or_false, Bool.false_or, if_true, Bool.false_eq_true, if_false, List.map_cons, List.map_nil, wipeE, List.set_cons_zero, List.set_cons_succ, List.cons_append, List.nil_append]
      have bl := bits_len m k
      have hfd : smF m ss g k = if (∀ s, s ∈ ss → inOrd (bits m k) s.toNat) then cm (bits m k) g else 0 := rfl
      generalize smF m ss g k = F at *
      generalize bits m k = b at *
      refine ok_compFW (fun s => !decide (inOrd b s.toNat)) .int (fun s hss => ?_) fun e he => ?_
      · obtain ⟨s1, s2⟩ := hs s hss
        obtain ⟨sn, rfl⟩ : ∃ sn : Nat, s = (sn : Int) := ⟨s.toNat, by omega⟩
        simp only [↓vcA, vcB, vcIo, true_and, and_true, Bool.and_self, List.contains_nil, List.contains_cons, Nat.reduceBEq, Bool.or_false, Bool.false_or, if_true, Bool.false_eq_true, if_false, List.map_cons, List.map_nil, wipeE, List.set_cons_zero, List.set_cons_succ, List.cons_append, List.nil_append, ↓vcT, l_order (n + 4) b sn (by omega) (by omega)]
        rw [Int.toNat_natCast]
        by_cases h : inOrd b sn
        · simp [h]
        · simp [h]
      · simp only [↓vcA, vcB, vcIo, true_and, and_true, Bool.and_self, List.contains_nil, List.contains_cons, Nat.reduceBEq, Bool.or_false, Bool.false_or, if_true, Bool.false_eq_true, if_false, List.map_cons, List.map_nil, wipeE, List.set_cons_zero, List.set_cons_succ, List.cons_append, List.nil_append] at he
        rw [he, List.nil_append, show D.lst true (List.map D.int (ss.filter fun s => !decide (inOrd b s.toNat))) = il true (ss.filter fun s => !decide (inOrd b s.toNat)) from rfl]
        simp only [↓vcA, vcB, vcIo, true_and, and_true, Bool.and_self, List.contains_nil, List.contains_cons, Nat.reduceBEq, Bool.or_false, Bool.false_or, if_true, Bool.false_eq_true, if_false, List.map_cons, List.map_nil, wipeE, List.set_cons_zero, List.set_cons_succ, List.cons_append, List.nil_append]
        refine ⟨by rw [List.length_map]; omega, fun z => ?_, fun z => ?_⟩
        · have ho : ∀ s, s ∈ ss → inOrd b s.toNat := fun s h => by
            have := List.filter_eq_nil_iff.mp z s h
            simpa using this
          rw [if_pos ho] at hfd
          simp only [↓vcA, vcB, vcIo, true_and, and_true, Bool.and_self, List.contains_nil, List.contains_cons, Nat.reduceBEq, Bool.or_false, Bool.false_or, if_true, Bool.false_eq_true, if_false, List.map_cons, List.map_nil, wipeE, List.set_cons_zero, List.set_cons_succ, List.cons_append, List.nil_append, l_count (n + 3) b false g hg (by omega) (by omega)]
          rw [← hfd, show (if (F : Int) > (t : Int) then (F : Int) else (t : Int)) = ((max t F : Nat) : Int) by split <;> omega]
          exact ⟨_, _, rfl⟩
        · have ho : ¬ ∀ s, s ∈ ss → inOrd b s.toNat := fun ho => z (by
            rw [List.filter_eq_nil_iff]
            intro s h
            simp [ho s h])
          rw [if_neg ho] at hfd
          rw [hfd, Nat.max_eq_left (by omega)]
          exact ⟨_, _, rfl⟩
  · obtain ⟨x, y, he⟩ := h
    rw [hm] at he
    subst he
    simp only [↓vcA, vcB, vcIo, true_and, and_true, Bool.and_self, List.contains_nil, List.contains_cons, Nat.reduceBEq, Bool.or_false, Bool.false_or, if_true, Bool.false_eq_true, if_false, List.map_cons, List.map_nil, wipeE, List.set_cons_zero, List.set_cons_succ, List.cons_append, List.nil_append, g1, decide_true])
end KS
set_option Elab.async false
set_option linter.all false
set_option maxRecDepth 100000
namespace KS
open PySem L2
theorem ok_cut5 (ns : List Int) (h : ns.length ≤ 63) : (cut ns none (some 5)).length ≤ 63 := by
  unfold cut
  simp only [List.length_take, List.length_drop]
  omega
theorem pick2 (m : Nat) (d : Int) : ixI [(m : Int), 5] (d.fmod 2) = m ∨ ixI [(m : Int), 5] (d.fmod 2) = 5 := by
  have a := Int.fmod_nonneg_of_pos d (show (0 : Int) < 2 by decide)
  have b := Int.fmod_lt_of_pos d (show (0 : Int) < 2 by decide)
  generalize d.fmod 2 = z at a b
  have : z = 0 ∨ z = 1 := by omega
  rcases this with rfl | rfl
  · exact .inl rfl
  · exact .inr rfl
theorem d_law (n : Nat) (ns : List Int) (hl : ns.length ≤ 63) : Ok (runI tblL lawFuel (n + 8) 28 [.scr ns]) fun r => r.1 = .bl true := by
  rw [ok_run tb28 (n + 7) _ rfl]
  simp only [ir28, List.map_cons, List.map_nil, List.replicate, List.cons_append, List.nil_append]
  simp only [↓vcA, vcB, vcIo, true_and, and_true, Bool.and_self, List.contains_nil, List.contains_cons, Nat.reduceBEq, Bool.or_false, Bool.false_or, if_true, Bool.false_eq_true, if_false, List.map_cons, List.map_nil, wipeE, List.set_cons_zero, List.set_cons_succ, List.cons_append, List.nil_append]
  have h6 := ok_cut5 ns hl
  generalize cut ns none (some 5) = cells at h6
  have hline : line = 16777216 := rfl
  refine ⟨by simp; omega, ?_⟩
  refine ok_compL (fun _ acc env => (∀ x, x ∈ acc → Dw bud x) ∧ ∃ y, env = [some (.scr ns), none, none, none, none, none, y, none]) ⟨fun _ h => by simp at h, none, rfl⟩
    (fun c r acc env hc ⟨ha, y, he⟩ => ?_) fun acc env ⟨ha, y, he⟩ => ?_
  · subst he
    simp only [↓vcA, vcB, vcIo, true_and, and_true, Bool.and_self, List.contains_nil, List.contains_cons, Nat.reduceBEq, Bool.or_false, Bool.false_or, if_true, Bool.false_eq_true, if_false, List.map_cons, List.map_nil, wipeE, List.set_cons_zero, List.set_cons_succ, List.cons_append, List.nil_append, ↓vcT]
    obtain ⟨st, e, hD⟩ := d_draws (n + 6) c
    simp only [↓vcA, vcB, vcIo, true_and, and_true, Bool.and_self, List.contains_nil, List.contains_cons, Nat.reduceBEq, Bool.or_false, Bool.false_or, if_true, Bool.false_eq_true, if_false, List.map_cons, List.map_nil, wipeE, List.set_cons_zero, List.set_cons_succ, List.cons_append, List.nil_append, e, hD.fresh]
    exact ⟨fun x hx => by
      rcases List.mem_append.mp hx with hx | hx
      · exact ha x hx
      · rw [show x = st by simpa using hx]; exact hD, _, rfl⟩
  · subst he
    simp only [↓vcA, vcB, vcIo, true_and, and_true, Bool.and_self, List.contains_nil, List.contains_cons, Nat.reduceBEq, Bool.or_false, Bool.false_or, if_true, Bool.false_eq_true, if_false, List.map_cons, List.map_nil, wipeE, List.set_cons_zero, List.set_cons_succ, List.cons_append, List.nil_append]
    refine ⟨by simp; omega, ?_⟩
    rw [show acc = acc.map id from (List.map_id acc).symm]
    refine ok_forL (fun _ env => ∃ x1 x2 x3 x4 x5 x7, env = [some (.scr ns), x1, x2, x3, x4, x5, none, x7]) ⟨_, _, _, _, _, _, rfl⟩ (fun st r env hd hx => ?_) fun env hx => ?_
    · have hst : Dw bud st := ha st (by obtain ⟨d, hd⟩ := hd; rw [← hd]; simp)
      obtain ⟨x1, x2, x3, x4, x5, x7, he⟩ := hx
      subst he
      simp only [↓vcA, vcB, vcIo, true_and, and_true, Bool.and_self, List.contains_nil, List.contains_cons, Nat.reduceBEq, Bool.or_false, Bool.false_or, if_true, Bool.false_eq_true, if_false, List.map_cons, List.map_nil, wipeE, List.set_cons_zero, List.set_cons_succ, List.cons_append, List.nil_append, ↓vcT, id_eq]
      refine ok_draw (m := 999) (hst.mono (by decide)) fun d1 st1 D1 f1 => ?_
      simp only [↓vcA, vcB, vcIo, true_and, and_true, Bool.and_self, List.contains_nil, List.contains_cons, Nat.reduceBEq, Bool.or_false, Bool.false_or, if_true, Bool.false_eq_true, if_false, List.map_cons, List.map_nil, wipeE, List.set_cons_zero, List.set_cons_succ, List.cons_append, List.nil_append, f1]
      have z0 := Int.fmod_nonneg_of_pos d1 (show (0 : Int) < 40 by decide)
      have z1 := Int.fmod_lt_of_pos d1 (show (0 : Int) < 40 by decide)
      obtain ⟨m, hm2⟩ : ∃ m : Nat, 1 + d1.fmod 40 = (m : Int) := ⟨(1 + d1.fmod 40).toNat, by omega⟩
      rw [hm2]
      refine ⟨by decide, ?_⟩
      have m1 : 1 ≤ m := by omega
      have m40 : m ≤ 40 := by omega
      refine ok_draw (m := 998) (D1.mono (by decide)) fun d2 st2 D2 f2 => ?_
      simp only [↓vcA, vcB, vcIo, true_and, and_true, Bool.and_self, List.contains_nil, List.contains_cons, Nat.reduceBEq, Bool.or_false, Bool.false_or, if_true, Bool.false_eq_true, if_false, List.map_cons, List.map_nil, wipeE, List.set_cons_zero, List.set_cons_succ, List.cons_append, List.nil_append, f2]
      have y0 := Int.fmod_nonneg_of_pos d2 (show (0 : Int) < 4 by decide)
      have y1 := Int.fmod_lt_of_pos d2 (show (0 : Int) < 4 by decide)
      generalize d2.fmod 4 = kind at y0 y1
      refine ⟨by decide, by omega, ?_⟩
      refine ok_compL (fun r acc env => ∃ (ss : List Int) (st : D) (x : Option D), env = [some (.scr ns), some st, some (.int m), x3, x4, x5, none, x] ∧ acc = ss.map .int ∧ (∀ s, s ∈ ss → 1 ≤ s ∧ s ≤ (m : Int)) ∧ ss.length + r.length ≤ 3 ∧ Dw (900 + r.length) st) ⟨[], st2, _, rfl, rfl, fun _ h => by simp at h, by simp; omega, D2.mono (by simp; omega)⟩
        (fun k r acc env _ h => ?_) fun acc env h => ?_
      · obtain ⟨ss, st3, x, he, ha, hb, hl, D3⟩ := h
        subst he ha
        simp only [↓vcA, vcB, vcIo, true_and, and_true, Bool.and_self, List.contains_nil, List.contains_cons, Nat.reduceBEq, Bool.or_false, Bool.false_or, if_true, Bool.false_eq_true, if_false, List.map_cons, List.map_nil, wipeE, List.set_cons_zero, List.set_cons_succ, List.cons_append, List.nil_append, ↓vcT]
        refine ok_draw (m := 900 + r.length) (D3.mono (by simp; omega)) fun d4 st4 D4 f4 => ?_
        simp only [↓vcA, vcB, vcIo, true_and, and_true, Bool.and_self, List.contains_nil, List.contains_cons, Nat.reduceBEq, Bool.or_false, Bool.false_or, if_true, Bool.false_eq_true, if_false, List.map_cons, List.map_nil, wipeE, List.set_cons_zero, List.set_cons_succ, List.cons_append, List.nil_append, f4]
        obtain ⟨w, hw, w0, w1⟩ : ∃ w : Int, (if (14 : Int) < (m : Int) then (14 : Int) else (m : Int)) = w ∧ 0 < w ∧ w ≤ m := by
          by_cases h : (14 : Int) < (m : Int)
          · exact ⟨14, by rw [if_pos h], by omega, by omega⟩
          · exact ⟨m, by rw [if_neg h], by omega, by omega⟩
        rw [hw]
        have a0 := Int.fmod_nonneg_of_pos d4 w0
        have a1 := Int.fmod_lt_of_pos d4 w0
        generalize d4.fmod w = y at a0 a1
        refine ⟨by omega, ss ++ [1 + y], st4, _, rfl, by simp, fun s hs => ?_, by rw [List.length_append, List.length_singleton]; simp at hl; omega, D4⟩
        rcases List.mem_append.mp hs with hs | hs
        · exact hb s hs
        · rw [List.mem_singleton.mp hs]; omega
      · obtain ⟨ss, st3, x, he, ha, hs, hl, D3⟩ := h
        subst he ha
        rw [show D.lst true (List.map D.int ss) = il true ss from rfl]
        simp only [↓vcA, vcB, vcIo, true_and, and_true, Bool.and_self, List.contains_nil, List.contains_cons, Nat.reduceBEq, Bool.or_false, Bool.false_or, if_true, Bool.false_eq_true, if_false, List.map_cons, List.map_nil, wipeE, List.set_cons_zero, List.set_cons_succ, List.cons_append, List.nil_append]
        refine ⟨by rw [List.length_map, List.length_range]; omega, ?_⟩
        simp at hl
        refine ok_draw (m := 899) (D3.mono (by simp)) fun d5 st5 D5 f5 => ?_
        simp only [↓vcA, vcB, vcIo, true_and, and_true, Bool.and_self, List.contains_nil, List.contains_cons, Nat.reduceBEq, Bool.or_false, Bool.false_or, if_true, Bool.false_eq_true, if_false, List.map_cons, List.map_nil, wipeE, List.set_cons_zero, List.set_cons_succ, List.cons_append, List.nil_append, f5]
        refine ok_draw (m := 898) D5 fun d6 st6 D6 f6 => ?_
        simp only [↓vcA, vcB, vcIo, true_and, and_true, Bool.and_self, List.contains_nil, List.contains_cons, Nat.reduceBEq, Bool.or_false, Bool.false_or, if_true, Bool.false_eq_true, if_false, List.map_cons, List.map_nil, wipeE, List.set_cons_zero, List.set_cons_succ, List.cons_append, List.nil_append, f6]
        have u0 := Int.fmod_nonneg_of_pos d6 (show (0 : Int) < 2 by decide)
        have u1 := Int.fmod_lt_of_pos d6 (show (0 : Int) < 2 by decide)
        have up := pick2 m d6
        generalize ixI [(m : Int), 5] (d6.fmod 2) = p at up
        generalize d6.fmod 2 = u at u0 u1
        obtain ⟨w, hw, w0, w1⟩ : ∃ w : Int, (if p < (m : Int) then p else (m : Int)) = w ∧ 0 < w ∧ w ≤ m := by
          by_cases h : p < (m : Int)
          · exact ⟨p, by rw [if_pos h], by omega, by omega⟩
          · exact ⟨m, by rw [if_neg h], by omega, by omega⟩
        rw [hw]
        have a0 := Int.fmod_nonneg_of_pos d5 w0
        have a1 := Int.fmod_lt_of_pos d5 w0
        generalize d5.fmod w = y at a0 a1
        obtain ⟨g, hg⟩ : ∃ g : Nat, 1 + y = (g : Int) := ⟨(1 + y).toNat, by omega⟩
        rw [hg]
        refine ⟨by decide, ⟨by show -(2 : Int) ≤ u; omega, by show u < (2 : Int); omega⟩, by omega, ?_⟩
        refine (d_needed (n + 1) 500 m ss g m1 m40 hs (by omega) (by omega) (by omega) st6 (D6.mono (by omega))).mono fun q hq => ?_
        obtain ⟨D7, hq1⟩ := hq
        obtain ⟨q1, st7⟩ := q
        dsimp only at hq1 D7
        subst hq1
        simp only [↓vcA, vcB, vcIo, true_and, and_true, Bool.and_self, List.contains_nil, List.contains_cons, Nat.reduceBEq, Bool.or_false, Bool.false_or, if_true, Bool.false_eq_true, if_false, List.map_cons, List.map_nil, wipeE, List.set_cons_zero, List.set_cons_succ, List.cons_append, List.nil_append, D7.flat]
        refine (d_load (n + 5) 400 m m1 m40 st7 (D7.mono (by omega))).mono fun q hq => ?_
        obtain ⟨D8, ld, hq1, hll, hlb⟩ := hq
        obtain ⟨q1, st8⟩ := q
        dsimp only at hq1 D8
        subst hq1
        simp only [↓vcA, vcB, vcIo, true_and, and_true, Bool.and_self, List.contains_nil, List.contains_cons, Nat.reduceBEq, Bool.or_false, Bool.false_or, if_true, Bool.false_eq_true, if_false, List.map_cons, List.map_nil, wipeE, List.set_cons_zero, List.set_cons_succ, List.cons_append, List.nil_append, D8.flat, l_one (n + 2) ld g (by omega) (by omega) hlb (by omega) (by omega)]
        refine ok_draw (m := 399) D8 fun d9 st9 D9 f9 => ?_
        simp only [↓vcA, vcB, vcIo, true_and, and_true, Bool.and_self, List.contains_nil, List.contains_cons, Nat.reduceBEq, Bool.or_false, Bool.false_or, if_true, Bool.false_eq_true, if_false, List.map_cons, List.map_nil, wipeE, List.set_cons_zero, List.set_cons_succ, List.cons_append, List.nil_append, f9]
        have v0 := Int.fmod_nonneg_of_pos d9 (show (0 : Int) < 9 by decide)
        have v1 := Int.fmod_lt_of_pos d9 (show (0 : Int) < 9 by decide)
        obtain ⟨f, hf2⟩ : ∃ f : Nat, 1 + d9.fmod 9 = (f : Int) := ⟨(1 + d9.fmod 9).toNat, by omega⟩
        rw [hf2]
        refine ⟨by decide, ?_⟩
        refine ok_draw (m := 398) D9 fun e2 su2 E2 h2 => ?_
        simp only [↓vcA, vcB, vcIo, true_and, and_true, Bool.and_self, List.contains_nil, List.contains_cons, Nat.reduceBEq, Bool.or_false, Bool.false_or, if_true, Bool.false_eq_true, if_false, List.map_cons, List.map_nil, wipeE, List.set_cons_zero, List.set_cons_succ, List.cons_append, List.nil_append, h2]
        have y0 := Int.fmod_nonneg_of_pos e2 (show (0 : Int) < 3 by decide)
        have y1 := Int.fmod_lt_of_pos e2 (show (0 : Int) < 3 by decide)
        generalize e2.fmod 3 = kind2 at y0 y1
        refine ⟨by decide, by omega, ?_⟩
        refine ok_compL (fun r acc env => ∃ (s2 : List Int) (st : D) (x : Option D), env = [some (.scr ns), some st, some (.int m), some (il true ss), some (.int g), some (.int f), none, x] ∧ acc = s2.map .int ∧ (∀ s, s ∈ s2 → 1 ≤ s ∧ s ≤ (f : Int)) ∧ s2.length + r.length ≤ 3 ∧ Dw (300 + r.length) st) ⟨[], su2, _, rfl, rfl, fun _ h => by simp at h, by simp; omega, E2.mono (by simp; omega)⟩
          (fun k r acc env _ h => ?_) fun acc env h => ?_
        · obtain ⟨s2, st3, x, he, ha, hb, hl, D3⟩ := h
          subst he ha
          simp only [↓vcA, vcB, vcIo, true_and, and_true, Bool.and_self, List.contains_nil, List.contains_cons, Nat.reduceBEq, Bool.or_false, Bool.false_or, if_true, Bool.false_eq_true, if_false, List.map_cons, List.map_nil, wipeE, List.set_cons_zero, List.set_cons_succ, List.cons_append, List.nil_append, ↓vcT]
          refine ok_draw (m := 300 + r.length) (D3.mono (by simp; omega)) fun d4 st4 D4 f4 => ?_
          simp only [↓vcA, vcB, vcIo, true_and, and_true, Bool.and_self, List.contains_nil, List.contains_cons, Nat.reduceBEq, Bool.or_false, Bool.false_or, if_true, Bool.false_eq_true, if_false, List.map_cons, List.map_nil, wipeE, List.set_cons_zero, List.set_cons_succ, List.cons_append, List.nil_append, f4]
          have w0 : (0 : Int) < f := by omega
          have a0 := Int.fmod_nonneg_of_pos d4 w0
          have a1 := Int.fmod_lt_of_pos d4 w0
          generalize d4.fmod f = y at a0 a1
          refine ⟨by omega, s2 ++ [1 + y], st4, _, rfl, by simp, fun s hs => ?_, by rw [List.length_append, List.length_singleton]; simp at hl; omega, D4⟩
          rcases List.mem_append.mp hs with hs | hs
          · exact hb s hs
          · rw [List.mem_singleton.mp hs]; omega
        · obtain ⟨s2, st3, x, he, ha, hs2, hl2, D3⟩ := h
          subst he ha
          rw [show D.lst true (List.map D.int s2) = il true s2 from rfl]
          simp only [↓vcA, vcB, vcIo, true_and, and_true, Bool.and_self, List.contains_nil, List.contains_cons, Nat.reduceBEq, Bool.or_false, Bool.false_or, if_true, Bool.false_eq_true, if_false, List.map_cons, List.map_nil, wipeE, List.set_cons_zero, List.set_cons_succ, List.cons_append, List.nil_append]
          refine ⟨by rw [List.length_map, List.length_range]; omega, ?_⟩
          simp at hl2
          refine ok_draw (m := 299) (D3.mono (by simp)) fun d4 st4 D4 f4 => ?_
          simp only [↓vcA, vcB, vcIo, true_and, and_true, Bool.and_self, List.contains_nil, List.contains_cons, Nat.reduceBEq, Bool.or_false, Bool.false_or, if_true, Bool.false_eq_true, if_false, List.map_cons, List.map_nil, wipeE, List.set_cons_zero, List.set_cons_succ, List.cons_append, List.nil_append, f4]
          have w0 : (0 : Int) < f := by omega
          have a0 := Int.fmod_nonneg_of_pos d4 w0
          have a1 := Int.fmod_lt_of_pos d4 w0
          generalize d4.fmod f = y at a0 a1
          obtain ⟨g2, hg2⟩ : ∃ g : Nat, 1 + y = (g : Int) := ⟨(1 + y).toNat, by omega⟩
          rw [hg2]
          refine ⟨by omega, ?_⟩
          simp only [↓vcA, vcB, vcIo, true_and, and_true, Bool.and_self, List.contains_nil, List.contains_cons, Nat.reduceBEq, Bool.or_false, Bool.false_or, if_true, Bool.false_eq_true, if_false, List.map_cons, List.map_nil, wipeE, List.set_cons_zero, List.set_cons_succ, List.cons_append, List.nil_append, l_small (n + 1) f s2 g2 (by omega) (by omega) hs2 (by omega) (by omega) (by omega)]
          exact ⟨_, _, _, _, _, _, rfl⟩
    · obtain ⟨x1, x2, x3, x4, x5, x7, he⟩ := hx
      subst he
      have g1 : runI tblL lawFuel (n + 7) 13 [il false [3, 2, 1], .int 1] = .ok (il true (sw [3, 2, 1] 1), .non) := g_sweep (n + 3) [3, 2, 1] 1 (by decide) (by decide) (by decide) (by decide)
      have v1 : sw [3, 2, 1] 1 = [2, 1, 3] := by decide +kernel
      have g2 : runI tblL lawFuel (n + 7) 14 [il false [3, 2, 1], .int 1] = .ok (.int (cm [3, 2, 1] 1), .non) := g_count (n + 3) [3, 2, 1] 1 (by decide) (by decide) (by decide) (by decide)
      have v2 : ((cm [3, 2, 1] 1 : Nat) : Int) = 2 := by decide +kernel
      have g3 : runI tblL lawFuel (n + 7) 11 [.int 8, il false [3, 5], .int 1] = .ok (.int (msN 8 [3, 5] 1), .non) := g_needed (n + 2) 8 [3, 5] 1 (by decide) (by decide) (by decide) (by decide) (by decide) (by decide)
      have v3 : ((msN 8 [3, 5] 1 : Nat) : Int) = 4 := by decide +kernel
      have g4 : runI tblL lawFuel (n + 7) 25 [il false [5], .int 1] = .ok (.bl true, .non) := l_one (n + 2) [5] 1 (by decide) (by decide) (bnd_sm (by decide)) (by decide) (by decide)
      have v5 : ((List.range (rangeN 40 0 (-1))).map fun (k : Nat) => (40 : Int) + (k : Int) * -1) = [40, 39, 38, 37, 36, 35, 34, 33, 32, 31, 30, 29, 28, 27, 26, 25, 24, 23, 22, 21, 20, 19, 18, 17, 16, 15, 14, 13, 12, 11, 10, 9, 8, 7, 6, 5, 4, 3, 2, 1] := by decide +kernel
      have v6 : rangeN 40 0 (-1) = 40 := by decide +kernel
      have g5 : runI tblL lawFuel (n + 7) 25 [il false [40, 39, 38, 37, 36, 35, 34, 33, 32, 31, 30, 29, 28, 27, 26, 25, 24, 23, 22, 21, 20, 19, 18, 17, 16, 15, 14, 13, 12, 11, 10, 9, 8, 7, 6, 5, 4, 3, 2, 1], .int 1] = .ok (.bl true, .non) := l_one (n + 2) _ 1 (by decide) (by decide) (bnd_sm (by decide)) (by decide) (by decide)
      have g6 : runI tblL lawFuel (n + 7) 14 [il false [2, 2, 2], .int 1] = .ok (.int (cm [2, 2, 2] 1), .non) := g_count (n + 3) [2, 2, 2] 1 (by decide) (by decide) (by decide) (by decide)
      have v7 : ((cm [2, 2, 2] 1 : Nat) : Int) = 0 := by decide +kernel
      rw [v1] at g1
      rw [v2] at g2
      rw [v3] at g3
      rw [v7] at g6
      simp only [↓vcA, vcB, vcIo, true_and, and_true, Bool.and_self, List.contains_nil, List.contains_cons, Nat.reduceBEq, Bool.or_false, Bool.false_or, if_true, Bool.false_eq_true, if_false, List.map_cons, List.map_nil, wipeE, List.set_cons_zero, List.set_cons_succ, List.cons_append, List.nil_append, g1, g2, g3, g4, decide_true, Bool.not_true]
      rw [v5]
      refine ⟨⟨⟨⟨⟨by decide, by decide⟩, by decide⟩, by decide⟩, by rw [v6, hline]; decide⟩, ?_⟩
      simp only [↓vcA, vcB, vcIo, true_and, and_true, Bool.and_self, List.contains_nil, List.contains_cons, Nat.reduceBEq, Bool.or_false, Bool.false_or, if_true, Bool.false_eq_true, if_false, List.map_cons, List.map_nil, wipeE, List.set_cons_zero, List.set_cons_succ, List.cons_append, List.nil_append, g5, g6, decide_true]
theorem law_plain (ns : List Int) (hl : ns.length ≤ 63) (hb : ∀ z, z ∈ ns → Builtin.Int.intBits z ≤ 1048576) : ∃ d1, run tblL lawFuel lawLvl 28 [.scr ns] = .ok (.bl true, d1) := by
  obtain ⟨⟨a, b⟩, e, h⟩ := (d_law 8 ns hl).elim
  exact ⟨b, by rw [← runI_eq, ← show a = .bl true from h]; exact e⟩
end KS
set_option Elab.async false
set_option linter.all false
set_option maxRecDepth 100000
set_option maxHeartbeats 4000000
namespace KS
open PySem L2
def topS (i : Nat) : Stmt := PySem.Challenge.pw_keptsorted_k61_whole_sweeps.main.body.getD i (.Pass ⟨0, 0, 0, 0⟩)
theorem irk0 : cSs (cS 20 ⟨["thing"], defScope (topS 5), fun _ => true, fnsL, csL, blL, []⟩) (defBody (topS 5)) = ir0 := by rfl
theorem irk1 : cSs (cS 20 ⟨["number", "least", "most"], defScope (topS 6), fun _ => true, fnsL, csL, blL, []⟩) (defBody (topS 6)) = ir1 := by rfl
theorem irk2 : cSs (cS 20 ⟨["places"], defScope (topS 7), fun _ => true, fnsL, csL, blL, []⟩) (defBody (topS 7)) = ir2 := by rfl
theorem irk3 : cSs (cS 20 ⟨["filling", "index", "value"], defScope (topS 8), fun _ => true, fnsL, csL, blL, []⟩) (defBody (topS 8)) = ir3 := by rfl
theorem irk4 : cSs (cS 20 ⟨["gap", "places"], defScope (topS 10), fun _ => true, fnsL, csL, blL, []⟩) (defBody (topS 10)) = ir4 := by rfl
theorem irk5 : cSs (cS 20 ⟨["gaps", "places", "gap"], defScope (topS 11), fun _ => true, fnsL, csL, blL, []⟩) (defBody (topS 11)) = ir5 := by rfl
theorem irk6 : cSs (cS 20 ⟨["places", "gaps", "told", "number", "gap"], defScope (topS 12), fun _ => true, fnsL, csL, blL, ["told"]⟩) (defBody (topS 12)) = ir6 := by rfl
theorem irk7 : cSs (cS 20 ⟨["places", "gaps", "gap", "known", "number"], defScope (topS 13), fun _ => true, fnsL, csL, blL, []⟩) (defBody (topS 13)) = ir7 := by rfl
theorem irk8 : cSs (cS 20 ⟨["filling", "gap", "told", "place"], defScope (topS 14), fun _ => true, fnsL, csL, blL, []⟩) (defBody (topS 14)) = ir8 := by rfl
theorem irk9 : cSs (cS 20 ⟨["filling", "gap", "told", "place", "value", "other"], defScope (topS 15), fun _ => true, fnsL, csL, blL, []⟩) (defBody (topS 15)) = ir9 := by rfl
theorem irk10 : cSs (cS 20 ⟨["places", "gaps", "gap"], defScope (topS 16), fun _ => true, fnsL, csL, blL, []⟩) (defBody (topS 16)) = ir10 := by rfl
theorem irk11 : cSs (cS 20 ⟨["places", "gaps", "gap"], defScope (topS 17), fun _ => true, fnsL, csL, blL, []⟩) (defBody (topS 17)) = ir11 := by rfl
theorem irk12 : cSs (cS 20 ⟨["places", "gaps", "gap", "known", "place"], defScope (topS 18), fun _ => true, fnsL, csL, blL, []⟩) (defBody (topS 18)) = ir12 := by rfl
theorem irk13 : cSs (cS 20 ⟨["filling", "gap"], defScope (topS 19), fun _ => true, fnsL, csL, blL, []⟩) (defBody (topS 19)) = ir13 := by rfl
theorem irk14 : cSs (cS 20 ⟨["filling", "gap"], defScope (topS 20), fun _ => true, fnsL, csL, blL, []⟩) (defBody (topS 20)) = ir14 := by rfl
theorem irk15 : cSs (cS 20 ⟨["cell"], defScope (topS 22), fun _ => true, fnsL, csL, blL, []⟩) (defBody (topS 22)) = ir15 := by rfl
theorem irk16 : cSs (cS 20 ⟨["draws", "k", "number"], defScope (topS 23), fun _ => true, fnsL, csL, blL, []⟩) (defBody (topS 23)) = ir16 := by rfl
theorem irk17 : cSs (cS 20 ⟨["load", "lot", "told", "line", "some", "at", "spot"], defScope (topS 24), fun _ => true, fnsL, csL, blL, []⟩) (defBody (topS 24)) = ir17 := by rfl
theorem irk18 : cSs (cS 20 ⟨["draws", "many", "kind", "left", "told", "scale", "k"], defScope (topS 25), fun _ => true, fnsL, csL, blL, []⟩) (defBody (topS 25)) = ir18 := by rfl
theorem irk19 : cSs (cS 20 ⟨["many", "step", "told", "first", "spot"], defScope (topS 26), fun _ => true, fnsL, csL, blL, []⟩) (defBody (topS 26)) = ir19 := by rfl
theorem irk20 : cSs (cS 20 ⟨["many", "steps", "told", "figure", "step"], defScope (topS 27), fun _ => true, fnsL, csL, blL, []⟩) (defBody (topS 27)) = ir20 := by rfl
theorem irk21 : cSs (cS 20 ⟨["many", "steps", "step", "told", "turn"], defScope (topS 28), fun _ => true, fnsL, csL, blL, []⟩) (defBody (topS 28)) = ir21 := by rfl
theorem irk22 : cSs (cS 20 ⟨["load", "step", "told", "at", "low", "high"], defScope (topS 29), fun _ => true, fnsL, csL, blL, []⟩) (defBody (topS 29)) = ir22 := by rfl
theorem irk23 : cSs (cS 20 ⟨["load", "step", "at"], defScope (topS 30), fun _ => true, fnsL, csL, blL, []⟩) (defBody (topS 30)) = ir23 := by rfl
theorem irk24 : cSs (cS 20 ⟨["load", "step", "told"], defScope (topS 31), fun _ => true, fnsL, csL, blL, []⟩) (defBody (topS 31)) = ir24 := by rfl
theorem irk25 : cSs (cS 20 ⟨["load", "step", "before", "due", "told", "now", "far", "both"], defScope (topS 32), fun _ => true, fnsL, csL, blL, []⟩) (defBody (topS 32)) = ir25 := by rfl
theorem irk26 : cSs (cS 20 ⟨["draws", "many", "steps", "step", "before", "due", "told", "worst", "load", "one"], defScope (topS 33), fun _ => true, fnsL, csL, blL, ["."]⟩) (defBody (topS 33)) = ir26 := by rfl
theorem irk27 : cSs (cS 20 ⟨["many", "steps", "step", "most", "marks", "load", "at", "one"], defScope (topS 34), fun _ => true, fnsL, csL, blL, []⟩) (defBody (topS 34)) = ir27 := by rfl
theorem irk28 : cSs (cS 20 ⟨["script", "draws", "many", "steps", "step", "few", "cell", "turn"], defScope (topS 35), fun _ => true, fnsL, csL, blL, []⟩) (defBody (topS 35)) = ir28 := by rfl
end KS
set_option Elab.async false
set_option linter.all false
set_option maxRecDepth 100000
set_option maxHeartbeats 4000000
namespace KS
open PySem PySem.Spec PyProof.Rows L2
theorem lk_mem {α β : Type} [BEq α] [LawfulBEq α] : ∀ {l : List (α × β)} {x : α} {y : β}, l.lookup x = some y → (x, y) ∈ l
  | [], x, y, h => by cases h
  | (a, b) :: l, x, y, h => by
    rw [List.lookup_cons] at h
    split at h
    · rename_i hc
      cases h
      have := beq_iff_eq.mp hc
      subst this
      exact List.mem_cons_self
    · exact List.mem_cons_of_mem _ (lk_mem h)
def lawT : Tb := ⟨fnsL, csL, blL, tblL, 20, lawFuel, dnL⟩
theorem def0 {K : PySem.W.Frag} {h : Heap} {mg : Str → Option Value} (X : K.In h) (G : h.Ns mainGlobals mg) {f : Addr} {od an : Option Addr} {sl : Array (Option Value)} {oc kV dc pm cd ct : Value} (a : PySem.W.nsIn K mainGlobals "is_whole" = some (some (.ref f))) (l : K.lookup f = some ⟨oc, od, .func (PySem.W.fnOf "is_whole" "is_whole" (defArgs (topS 5)) (defBody (topS 5)) (defScope (topS 5)) .none kV dc pm an cd ct), sl⟩) (c : PySem.W.codeIn K cd "is_whole" = true) (k : PySem.W.keepIn K (.ref f) = true) :
    DefOk K mg lawT "is_whole" ⟨0, ["thing"], false, []⟩ := by
  refine ⟨f, _, _, _, _, _, _, _, _, _, _, _, _, _, _, _, ["thing"], PySem.W.mg_of X G a, l, c, k, ⟨rfl, rfl, rfl, by decide +kernel, by decide +kernel, by decide +kernel, by decide +kernel⟩, Binds.all fun us hl => ?_, ?_, ?_, by decide⟩
  · match us, hl with
    | [a], _ => rfl
  · intro ns pm hm; cases hm
  · exact congrArg (fun b => some (⟨1, 1, false, b⟩ : FnI)) irk0.symm
theorem def1 {K : PySem.W.Frag} {h : Heap} {mg : Str → Option Value} (X : K.In h) (G : h.Ns mainGlobals mg) {f : Addr} {od an : Option Addr} {sl : Array (Option Value)} {oc kV dc pm cd ct : Value} (a : PySem.W.nsIn K mainGlobals "check_number" = some (some (.ref f))) (l : K.lookup f = some ⟨oc, od, .func (PySem.W.fnOf "check_number" "check_number" (defArgs (topS 6)) (defBody (topS 6)) (defScope (topS 6)) .none kV dc pm an cd ct), sl⟩) (c : PySem.W.codeIn K cd "check_number" = true) (k : PySem.W.keepIn K (.ref f) = true) :
    DefOk K mg lawT "check_number" ⟨1, ["number", "least", "most"], false, []⟩ := by
  refine ⟨f, _, _, _, _, _, _, _, _, _, _, _, _, _, _, _, ["number", "least", "most"], PySem.W.mg_of X G a, l, c, k, ⟨rfl, rfl, rfl, by decide +kernel, by decide +kernel, by decide +kernel, by decide +kernel⟩, Binds.all fun us hl => ?_, ?_, ?_, by decide⟩
  · match us, hl with
    | [a, b, c], _ => rfl
  · intro ns pm hm; cases hm
  · exact congrArg (fun b => some (⟨3, 3, false, b⟩ : FnI)) irk1.symm
theorem def2 {K : PySem.W.Frag} {h : Heap} {mg : Str → Option Value} (X : K.In h) (G : h.Ns mainGlobals mg) {f : Addr} {od an : Option Addr} {sl : Array (Option Value)} {oc kV dc pm cd ct : Value} (a : PySem.W.nsIn K mainGlobals "check_places" = some (some (.ref f))) (l : K.lookup f = some ⟨oc, od, .func (PySem.W.fnOf "check_places" "check_places" (defArgs (topS 7)) (defBody (topS 7)) (defScope (topS 7)) .none kV dc pm an cd ct), sl⟩) (c : PySem.W.codeIn K cd "check_places" = true) (k : PySem.W.keepIn K (.ref f) = true) :
    DefOk K mg lawT "check_places" ⟨2, ["places"], false, []⟩ := by
  refine ⟨f, _, _, _, _, _, _, _, _, _, _, _, _, _, _, _, ["places"], PySem.W.mg_of X G a, l, c, k, ⟨rfl, rfl, rfl, by decide +kernel, by decide +kernel, by decide +kernel, by decide +kernel⟩, Binds.all fun us hl => ?_, ?_, ?_, by decide⟩
  · match us, hl with
    | [a], _ => rfl
  · intro ns pm hm; cases hm
  · exact congrArg (fun b => some (⟨1, 1, false, b⟩ : FnI)) irk2.symm
theorem def3 {K : PySem.W.Frag} {h : Heap} {mg : Str → Option Value} (X : K.In h) (G : h.Ns mainGlobals mg) {f : Addr} {od an : Option Addr} {sl : Array (Option Value)} {oc kV dc pm cd ct : Value} (a : PySem.W.nsIn K mainGlobals "check_filling" = some (some (.ref f))) (l : K.lookup f = some ⟨oc, od, .func (PySem.W.fnOf "check_filling" "check_filling" (defArgs (topS 8)) (defBody (topS 8)) (defScope (topS 8)) .none kV dc pm an cd ct), sl⟩) (c : PySem.W.codeIn K cd "check_filling" = true) (k : PySem.W.keepIn K (.ref f) = true) :
    DefOk K mg lawT "check_filling" ⟨3, ["filling"], false, []⟩ := by
  refine ⟨f, _, _, _, _, _, _, _, _, _, _, _, _, _, _, _, ["filling", "index", "value"], PySem.W.mg_of X G a, l, c, k, ⟨rfl, rfl, rfl, by decide +kernel, by decide +kernel, by decide +kernel, by decide +kernel⟩, Binds.all fun us hl => ?_, ?_, ?_, by decide⟩
  · match us, hl with
    | [a], _ => rfl
  · intro ns pm hm; cases hm
  · exact congrArg (fun b => some (⟨1, 3, false, b⟩ : FnI)) irk3.symm
theorem def4 {K : PySem.W.Frag} {h : Heap} {mg : Str → Option Value} (X : K.In h) (G : h.Ns mainGlobals mg) {f : Addr} {od an : Option Addr} {sl : Array (Option Value)} {oc kV dc pm cd ct : Value} (a : PySem.W.nsIn K mainGlobals "check_gap" = some (some (.ref f))) (l : K.lookup f = some ⟨oc, od, .func (PySem.W.fnOf "check_gap" "check_gap" (defArgs (topS 10)) (defBody (topS 10)) (defScope (topS 10)) .none kV dc pm an cd ct), sl⟩) (c : PySem.W.codeIn K cd "check_gap" = true) (k : PySem.W.keepIn K (.ref f) = true) :
    DefOk K mg lawT "check_gap" ⟨4, ["gap", "places"], false, []⟩ := by
  refine ⟨f, _, _, _, _, _, _, _, _, _, _, _, _, _, _, _, ["gap", "places"], PySem.W.mg_of X G a, l, c, k, ⟨rfl, rfl, rfl, by decide +kernel, by decide +kernel, by decide +kernel, by decide +kernel⟩, Binds.all fun us hl => ?_, ?_, ?_, by decide⟩
  · match us, hl with
    | [a, b], _ => rfl
  · intro ns pm hm; cases hm
  · exact congrArg (fun b => some (⟨2, 2, false, b⟩ : FnI)) irk4.symm
theorem def5 {K : PySem.W.Frag} {h : Heap} {mg : Str → Option Value} (X : K.In h) (G : h.Ns mainGlobals mg) {f : Addr} {od an : Option Addr} {sl : Array (Option Value)} {oc kV dc pm cd ct : Value} (a : PySem.W.nsIn K mainGlobals "check_gaps" = some (some (.ref f))) (l : K.lookup f = some ⟨oc, od, .func (PySem.W.fnOf "check_gaps" "check_gaps" (defArgs (topS 11)) (defBody (topS 11)) (defScope (topS 11)) .none kV dc pm an cd ct), sl⟩) (c : PySem.W.codeIn K cd "check_gaps" = true) (k : PySem.W.keepIn K (.ref f) = true) :
    DefOk K mg lawT "check_gaps" ⟨5, ["gaps", "places"], false, []⟩ := by
  refine ⟨f, _, _, _, _, _, _, _, _, _, _, _, _, _, _, _, ["gaps", "places", "gap"], PySem.W.mg_of X G a, l, c, k, ⟨rfl, rfl, rfl, by decide +kernel, by decide +kernel, by decide +kernel, by decide +kernel⟩, Binds.all fun us hl => ?_, ?_, ?_, by decide⟩
  · match us, hl with
    | [a, b], _ => rfl
  · intro ns pm hm; cases hm
  · exact congrArg (fun b => some (⟨2, 3, false, b⟩ : FnI)) irk5.symm
theorem def6 {K : PySem.W.Frag} {h : Heap} {mg : Str → Option Value} (X : K.In h) (G : h.Ns mainGlobals mg) {f : Addr} {od an : Option Addr} {sl : Array (Option Value)} {oc kV dc pm cd ct : Value} (a : PySem.W.nsIn K mainGlobals "sums_in" = some (some (.ref f))) (l : K.lookup f = some ⟨oc, od, .func (PySem.W.fnOf "sums_in" "sums_in" (defArgs (topS 12)) (defBody (topS 12)) (defScope (topS 12)) .none kV dc pm an cd ct), sl⟩) (c : PySem.W.codeIn K cd "sums_in" = true) (k : PySem.W.keepIn K (.ref f) = true) :
    DefOk K mg lawT "sums_in" ⟨6, ["places", "gaps"], false, []⟩ := by
  refine ⟨f, _, _, _, _, _, _, _, _, _, _, _, _, _, _, _, ["places", "gaps", "told", "number", "gap"], PySem.W.mg_of X G a, l, c, k, ⟨rfl, rfl, rfl, by decide +kernel, by decide +kernel, by decide +kernel, by decide +kernel⟩, Binds.all fun us hl => ?_, ?_, ?_, by decide⟩
  · match us, hl with
    | [a, b], _ => rfl
  · intro ns pm hm; cases hm
  · exact congrArg (fun b => some (⟨2, 5, false, b⟩ : FnI)) irk6.symm
theorem def7 {K : PySem.W.Frag} {h : Heap} {mg : Str → Option Value} (X : K.In h) (G : h.Ns mainGlobals mg) {f : Addr} {od an : Option Addr} {sl : Array (Option Value)} {oc kV dc pm cd ct : Value} (a : PySem.W.nsIn K mainGlobals "missing_in" = some (some (.ref f))) (l : K.lookup f = some ⟨oc, od, .func (PySem.W.fnOf "missing_in" "missing_in" (defArgs (topS 13)) (defBody (topS 13)) (defScope (topS 13)) .none kV dc pm an cd ct), sl⟩) (c : PySem.W.codeIn K cd "missing_in" = true) (k : PySem.W.keepIn K (.ref f) = true) :
    DefOk K mg lawT "missing_in" ⟨7, ["places", "gaps", "gap"], false, []⟩ := by
  refine ⟨f, _, _, _, _, _, _, _, _, _, _, _, _, _, _, _, ["places", "gaps", "gap", "known", "number"], PySem.W.mg_of X G a, l, c, k, ⟨rfl, rfl, rfl, by decide +kernel, by decide +kernel, by decide +kernel, by decide +kernel⟩, Binds.all fun us hl => ?_, ?_, ?_, by decide⟩
  · match us, hl with
    | [a, b, c], _ => rfl
  · intro ns pm hm; cases hm
  · exact congrArg (fun b => some (⟨3, 5, false, b⟩ : FnI)) irk7.symm
theorem def8 {K : PySem.W.Frag} {h : Heap} {mg : Str → Option Value} (X : K.In h) (G : h.Ns mainGlobals mg) {f : Addr} {od an : Option Addr} {sl : Array (Option Value)} {oc kV dc pm cd ct : Value} (a : PySem.W.nsIn K mainGlobals "swept" = some (some (.ref f))) (l : K.lookup f = some ⟨oc, od, .func (PySem.W.fnOf "swept" "swept" (defArgs (topS 14)) (defBody (topS 14)) (defScope (topS 14)) .none kV dc pm an cd ct), sl⟩) (c : PySem.W.codeIn K cd "swept" = true) (k : PySem.W.keepIn K (.ref f) = true) :
    DefOk K mg lawT "swept" ⟨8, ["filling", "gap"], false, []⟩ := by
  refine ⟨f, _, _, _, _, _, _, _, _, _, _, _, _, _, _, _, ["filling", "gap", "told", "place"], PySem.W.mg_of X G a, l, c, k, ⟨rfl, rfl, rfl, by decide +kernel, by decide +kernel, by decide +kernel, by decide +kernel⟩, Binds.all fun us hl => ?_, ?_, ?_, by decide⟩
  · match us, hl with
    | [a, b], _ => rfl
  · intro ns pm hm; cases hm
  · exact congrArg (fun b => some (⟨2, 4, false, b⟩ : FnI)) irk8.symm
theorem def9 {K : PySem.W.Frag} {h : Heap} {mg : Str → Option Value} (X : K.In h) (G : h.Ns mainGlobals mg) {f : Addr} {od an : Option Addr} {sl : Array (Option Value)} {oc kV dc pm cd ct : Value} (a : PySem.W.nsIn K mainGlobals "sweeps_in" = some (some (.ref f))) (l : K.lookup f = some ⟨oc, od, .func (PySem.W.fnOf "sweeps_in" "sweeps_in" (defArgs (topS 15)) (defBody (topS 15)) (defScope (topS 15)) .none kV dc pm an cd ct), sl⟩) (c : PySem.W.codeIn K cd "sweeps_in" = true) (k : PySem.W.keepIn K (.ref f) = true) :
    DefOk K mg lawT "sweeps_in" ⟨9, ["filling", "gap"], false, []⟩ := by
  refine ⟨f, _, _, _, _, _, _, _, _, _, _, _, _, _, _, _, ["filling", "gap", "told", "place", "value", "other"], PySem.W.mg_of X G a, l, c, k, ⟨rfl, rfl, rfl, by decide +kernel, by decide +kernel, by decide +kernel, by decide +kernel⟩, Binds.all fun us hl => ?_, ?_, ?_, by decide⟩
  · match us, hl with
    | [a, b], _ => rfl
  · intro ns pm hm; cases hm
  · exact congrArg (fun b => some (⟨2, 6, false, b⟩ : FnI)) irk9.symm
theorem def10 {K : PySem.W.Frag} {h : Heap} {mg : Str → Option Value} (X : K.In h) (G : h.Ns mainGlobals mg) {f : Addr} {od an : Option Addr} {sl : Array (Option Value)} {oc kV dc pm cd ct : Value} (a : PySem.W.nsIn K mainGlobals "check_passes" = some (some (.ref f))) (l : K.lookup f = some ⟨oc, od, .func (PySem.W.fnOf "check_passes" "check_passes" (defArgs (topS 16)) (defBody (topS 16)) (defScope (topS 16)) .none kV dc pm an cd ct), sl⟩) (c : PySem.W.codeIn K cd "check_passes" = true) (k : PySem.W.keepIn K (.ref f) = true) :
    DefOk K mg lawT "check_passes" ⟨10, ["places", "gaps", "gap"], false, []⟩ := by
  refine ⟨f, _, _, _, _, _, _, _, _, _, _, _, _, _, _, _, ["places", "gaps", "gap"], PySem.W.mg_of X G a, l, c, k, ⟨rfl, rfl, rfl, by decide +kernel, by decide +kernel, by decide +kernel, by decide +kernel⟩, Binds.all fun us hl => ?_, ?_, ?_, by decide⟩
  · match us, hl with
    | [a, b, c], _ => rfl
  · intro ns pm hm; cases hm
  · exact congrArg (fun b => some (⟨3, 3, false, b⟩ : FnI)) irk10.symm
theorem def11 {K : PySem.W.Frag} {h : Heap} {mg : Str → Option Value} (X : K.In h) (G : h.Ns mainGlobals mg) {f : Addr} {od an : Option Addr} {sl : Array (Option Value)} {oc kV dc pm cd ct : Value} (a : PySem.W.nsIn K mainGlobals "sweeps_needed" = some (some (.ref f))) (l : K.lookup f = some ⟨oc, od, .func (PySem.W.fnOf "sweeps_needed" "sweeps_needed" (defArgs (topS 17)) (defBody (topS 17)) (defScope (topS 17)) .none kV dc pm an cd ct), sl⟩) (c : PySem.W.codeIn K cd "sweeps_needed" = true) (k : PySem.W.keepIn K (.ref f) = true) :
    DefOk K mg lawT "sweeps_needed" ⟨11, ["places", "gaps", "gap"], false, [(["gap", "gaps", "places"], [2, 1, 0])]⟩ := by
  refine ⟨f, _, _, _, _, _, _, _, _, _, _, _, _, _, _, _, ["places", "gaps", "gap"], PySem.W.mg_of X G a, l, c, k, ⟨rfl, rfl, rfl, by decide +kernel, by decide +kernel, by decide +kernel, by decide +kernel⟩, Binds.all fun us hl => ?_, ?_, ?_, by decide⟩
  · match us, hl with
    | [a, b, c], _ => rfl
  · intro ns pm hm
    have hm := lk_mem hm
    simp only [List.mem_cons, List.not_mem_nil, or_false, Prod.mk.injEq] at hm
    obtain ⟨rfl, rfl⟩ := hm
    intro s ws zs _ hw hz hl
    match ws, hw with
    | [a, b, c], _ =>
      cases hz
      exact BindsTo.of_eq rfl
  · exact congrArg (fun b => some (⟨3, 3, false, b⟩ : FnI)) irk11.symm
theorem def12 {K : PySem.W.Frag} {h : Heap} {mg : Str → Option Value} (X : K.In h) (G : h.Ns mainGlobals mg) {f : Addr} {od an : Option Addr} {sl : Array (Option Value)} {oc kV dc pm cd ct : Value} (a : PySem.W.nsIn K mainGlobals "slowest" = some (some (.ref f))) (l : K.lookup f = some ⟨oc, od, .func (PySem.W.fnOf "slowest" "slowest" (defArgs (topS 18)) (defBody (topS 18)) (defScope (topS 18)) .none kV dc pm an cd ct), sl⟩) (c : PySem.W.codeIn K cd "slowest" = true) (k : PySem.W.keepIn K (.ref f) = true) :
    DefOk K mg lawT "slowest" ⟨12, ["places", "gaps", "gap"], false, [(["gap", "gaps", "places"], [2, 1, 0])]⟩ := by
  refine ⟨f, _, _, _, _, _, _, _, _, _, _, _, _, _, _, _, ["places", "gaps", "gap", "known", "place"], PySem.W.mg_of X G a, l, c, k, ⟨rfl, rfl, rfl, by decide +kernel, by decide +kernel, by decide +kernel, by decide +kernel⟩, Binds.all fun us hl => ?_, ?_, ?_, by decide⟩
  · match us, hl with
    | [a, b, c], _ => rfl
  · intro ns pm hm
    have hm := lk_mem hm
    simp only [List.mem_cons, List.not_mem_nil, or_false, Prod.mk.injEq] at hm
    obtain ⟨rfl, rfl⟩ := hm
    intro s ws zs _ hw hz hl
    match ws, hw with
    | [a, b, c], _ =>
      cases hz
      exact BindsTo.of_eq rfl
  · exact congrArg (fun b => some (⟨3, 5, false, b⟩ : FnI)) irk12.symm
theorem def13 {K : PySem.W.Frag} {h : Heap} {mg : Str → Option Value} (X : K.In h) (G : h.Ns mainGlobals mg) {f : Addr} {od an : Option Addr} {sl : Array (Option Value)} {oc kV dc pm cd ct : Value} (a : PySem.W.nsIn K mainGlobals "sweep" = some (some (.ref f))) (l : K.lookup f = some ⟨oc, od, .func (PySem.W.fnOf "sweep" "sweep" (defArgs (topS 19)) (defBody (topS 19)) (defScope (topS 19)) .none kV dc pm an cd ct), sl⟩) (c : PySem.W.codeIn K cd "sweep" = true) (k : PySem.W.keepIn K (.ref f) = true) :
    DefOk K mg lawT "sweep" ⟨13, ["filling", "gap"], false, [(["gap", "filling"], [1, 0])]⟩ := by
  refine ⟨f, _, _, _, _, _, _, _, _, _, _, _, _, _, _, _, ["filling", "gap"], PySem.W.mg_of X G a, l, c, k, ⟨rfl, rfl, rfl, by decide +kernel, by decide +kernel, by decide +kernel, by decide +kernel⟩, Binds.all fun us hl => ?_, ?_, ?_, by decide⟩
  · match us, hl with
    | [a, b], _ => rfl
  · intro ns pm hm
    have hm := lk_mem hm
    simp only [List.mem_cons, List.not_mem_nil, or_false, Prod.mk.injEq] at hm
    obtain ⟨rfl, rfl⟩ := hm
    intro s ws zs _ hw hz hl
    match ws, hw with
    | [a, b], _ =>
      cases hz
      exact BindsTo.of_eq rfl
  · exact congrArg (fun b => some (⟨2, 2, false, b⟩ : FnI)) irk13.symm
theorem def14 {K : PySem.W.Frag} {h : Heap} {mg : Str → Option Value} (X : K.In h) (G : h.Ns mainGlobals mg) {f : Addr} {od an : Option Addr} {sl : Array (Option Value)} {oc kV dc pm cd ct : Value} (a : PySem.W.nsIn K mainGlobals "count_sweeps" = some (some (.ref f))) (l : K.lookup f = some ⟨oc, od, .func (PySem.W.fnOf "count_sweeps" "count_sweeps" (defArgs (topS 20)) (defBody (topS 20)) (defScope (topS 20)) .none kV dc pm an cd ct), sl⟩) (c : PySem.W.codeIn K cd "count_sweeps" = true) (k : PySem.W.keepIn K (.ref f) = true) :
    DefOk K mg lawT "count_sweeps" ⟨14, ["filling", "gap"], false, [(["gap", "filling"], [1, 0])]⟩ := by
  refine ⟨f, _, _, _, _, _, _, _, _, _, _, _, _, _, _, _, ["filling", "gap"], PySem.W.mg_of X G a, l, c, k, ⟨rfl, rfl, rfl, by decide +kernel, by decide +kernel, by decide +kernel, by decide +kernel⟩, Binds.all fun us hl => ?_, ?_, ?_, by decide⟩
  · match us, hl with
    | [a, b], _ => rfl
  · intro ns pm hm
    have hm := lk_mem hm
    simp only [List.mem_cons, List.not_mem_nil, or_false, Prod.mk.injEq] at hm
    obtain ⟨rfl, rfl⟩ := hm
    intro s ws zs _ hw hz hl
    match ws, hw with
    | [a, b], _ =>
      cases hz
      exact BindsTo.of_eq rfl
  · exact congrArg (fun b => some (⟨2, 2, false, b⟩ : FnI)) irk14.symm
theorem def15 {K : PySem.W.Frag} {h : Heap} {mg : Str → Option Value} (X : K.In h) (G : h.Ns mainGlobals mg) {f : Addr} {od an : Option Addr} {sl : Array (Option Value)} {oc kV dc pm cd ct : Value} (a : PySem.W.nsIn K mainGlobals "_law_draws" = some (some (.ref f))) (l : K.lookup f = some ⟨oc, od, .func (PySem.W.fnOf "_law_draws" "_law_draws" (defArgs (topS 22)) (defBody (topS 22)) (defScope (topS 22)) .none kV dc pm an cd ct), sl⟩) (c : PySem.W.codeIn K cd "_law_draws" = true) (k : PySem.W.keepIn K (.ref f) = true) :
    DefOk K mg lawT "_law_draws" ⟨15, ["cell"], false, []⟩ := by
  refine ⟨f, _, _, _, _, _, _, _, _, _, _, _, _, _, _, _, ["cell"], PySem.W.mg_of X G a, l, c, k, ⟨rfl, rfl, rfl, by decide +kernel, by decide +kernel, by decide +kernel, by decide +kernel⟩, Binds.all fun us hl => ?_, ?_, ?_, by decide⟩
  · match us, hl with
    | [a], _ => rfl
  · intro ns pm hm; cases hm
  · exact congrArg (fun b => some (⟨1, 1, false, b⟩ : FnI)) irk15.symm
theorem def16 {K : PySem.W.Frag} {h : Heap} {mg : Str → Option Value} (X : K.In h) (G : h.Ns mainGlobals mg) {f : Addr} {od an : Option Addr} {sl : Array (Option Value)} {oc kV dc pm cd ct : Value} (a : PySem.W.nsIn K mainGlobals "_law_next" = some (some (.ref f))) (l : K.lookup f = some ⟨oc, od, .func (PySem.W.fnOf "_law_next" "_law_next" (defArgs (topS 23)) (defBody (topS 23)) (defScope (topS 23)) .none kV dc pm an cd ct), sl⟩) (c : PySem.W.codeIn K cd "_law_next" = true) (k : PySem.W.keepIn K (.ref f) = true) :
    DefOk K mg lawT "_law_next" ⟨16, ["draws"], true, []⟩ := by
  refine ⟨f, _, _, _, _, _, _, _, _, _, _, _, _, _, _, _, ["draws", "k", "number"], PySem.W.mg_of X G a, l, c, k, ⟨rfl, rfl, rfl, by decide +kernel, by decide +kernel, by decide +kernel, by decide +kernel⟩, Binds.all fun us hl => ?_, ?_, ?_, by decide⟩
  · match us, hl with
    | [a], _ => rfl
  · intro ns pm hm; cases hm
  · exact congrArg (fun b => some (⟨1, 3, true, b⟩ : FnI)) irk16.symm
theorem def17 {K : PySem.W.Frag} {h : Heap} {mg : Str → Option Value} (X : K.In h) (G : h.Ns mainGlobals mg) {f : Addr} {od an : Option Addr} {sl : Array (Option Value)} {oc kV dc pm cd ct : Value} (a : PySem.W.nsIn K mainGlobals "_law_sorted" = some (some (.ref f))) (l : K.lookup f = some ⟨oc, od, .func (PySem.W.fnOf "_law_sorted" "_law_sorted" (defArgs (topS 24)) (defBody (topS 24)) (defScope (topS 24)) .none kV dc pm an cd ct), sl⟩) (c : PySem.W.codeIn K cd "_law_sorted" = true) (k : PySem.W.keepIn K (.ref f) = true) :
    DefOk K mg lawT "_law_sorted" ⟨17, ["load", "lot"], false, []⟩ := by
  refine ⟨f, _, _, _, _, _, _, _, _, _, _, _, _, _, _, _, ["load", "lot", "told", "line", "some", "at", "spot"], PySem.W.mg_of X G a, l, c, k, ⟨rfl, rfl, rfl, by decide +kernel, by decide +kernel, by decide +kernel, by decide +kernel⟩, Binds.all fun us hl => ?_, ?_, ?_, by decide⟩
  · match us, hl with
    | [a, b], _ => rfl
  · intro ns pm hm; cases hm
  · exact congrArg (fun b => some (⟨2, 7, false, b⟩ : FnI)) irk17.symm
theorem def18 {K : PySem.W.Frag} {h : Heap} {mg : Str → Option Value} (X : K.In h) (G : h.Ns mainGlobals mg) {f : Addr} {od an : Option Addr} {sl : Array (Option Value)} {oc kV dc pm cd ct : Value} (a : PySem.W.nsIn K mainGlobals "_law_load" = some (some (.ref f))) (l : K.lookup f = some ⟨oc, od, .func (PySem.W.fnOf "_law_load" "_law_load" (defArgs (topS 25)) (defBody (topS 25)) (defScope (topS 25)) .none kV dc pm an cd ct), sl⟩) (c : PySem.W.codeIn K cd "_law_load" = true) (k : PySem.W.keepIn K (.ref f) = true) :
    DefOk K mg lawT "_law_load" ⟨18, ["draws", "many"], true, []⟩ := by
  refine ⟨f, _, _, _, _, _, _, _, _, _, _, _, _, _, _, _, ["draws", "many", "kind", "left", "told", "scale", "k"], PySem.W.mg_of X G a, l, c, k, ⟨rfl, rfl, rfl, by decide +kernel, by decide +kernel, by decide +kernel, by decide +kernel⟩, Binds.all fun us hl => ?_, ?_, ?_, by decide⟩
  · match us, hl with
    | [a, b], _ => rfl
  · intro ns pm hm; cases hm
  · exact congrArg (fun b => some (⟨2, 7, true, b⟩ : FnI)) irk18.symm
theorem def19 {K : PySem.W.Frag} {h : Heap} {mg : Str → Option Value} (X : K.In h) (G : h.Ns mainGlobals mg) {f : Addr} {od an : Option Addr} {sl : Array (Option Value)} {oc kV dc pm cd ct : Value} (a : PySem.W.nsIn K mainGlobals "_law_gap_lot" = some (some (.ref f))) (l : K.lookup f = some ⟨oc, od, .func (PySem.W.fnOf "_law_gap_lot" "_law_gap_lot" (defArgs (topS 26)) (defBody (topS 26)) (defScope (topS 26)) .none kV dc pm an cd ct), sl⟩) (c : PySem.W.codeIn K cd "_law_gap_lot" = true) (k : PySem.W.keepIn K (.ref f) = true) :
    DefOk K mg lawT "_law_gap_lot" ⟨19, ["many", "step"], false, []⟩ := by
  refine ⟨f, _, _, _, _, _, _, _, _, _, _, _, _, _, _, _, ["many", "step", "told", "first", "spot"], PySem.W.mg_of X G a, l, c, k, ⟨rfl, rfl, rfl, by decide +kernel, by decide +kernel, by decide +kernel, by decide +kernel⟩, Binds.all fun us hl => ?_, ?_, ?_, by decide⟩
  · match us, hl with
    | [a, b], _ => rfl
  · intro ns pm hm; cases hm
  · exact congrArg (fun b => some (⟨2, 5, false, b⟩ : FnI)) irk19.symm
theorem def20 {K : PySem.W.Frag} {h : Heap} {mg : Str → Option Value} (X : K.In h) (G : h.Ns mainGlobals mg) {f : Addr} {od an : Option Addr} {sl : Array (Option Value)} {oc kV dc pm cd ct : Value} (a : PySem.W.nsIn K mainGlobals "_law_sums" = some (some (.ref f))) (l : K.lookup f = some ⟨oc, od, .func (PySem.W.fnOf "_law_sums" "_law_sums" (defArgs (topS 27)) (defBody (topS 27)) (defScope (topS 27)) .none kV dc pm an cd ct), sl⟩) (c : PySem.W.codeIn K cd "_law_sums" = true) (k : PySem.W.keepIn K (.ref f) = true) :
    DefOk K mg lawT "_law_sums" ⟨20, ["many", "steps"], false, []⟩ := by
  refine ⟨f, _, _, _, _, _, _, _, _, _, _, _, _, _, _, _, ["many", "steps", "told", "figure", "step"], PySem.W.mg_of X G a, l, c, k, ⟨rfl, rfl, rfl, by decide +kernel, by decide +kernel, by decide +kernel, by decide +kernel⟩, Binds.all fun us hl => ?_, ?_, ?_, by decide⟩
  · match us, hl with
    | [a, b], _ => rfl
  · intro ns pm hm; cases hm
  · exact congrArg (fun b => some (⟨2, 5, false, b⟩ : FnI)) irk20.symm
theorem def21 {K : PySem.W.Frag} {h : Heap} {mg : Str → Option Value} (X : K.In h) (G : h.Ns mainGlobals mg) {f : Addr} {od an : Option Addr} {sl : Array (Option Value)} {oc kV dc pm cd ct : Value} (a : PySem.W.nsIn K mainGlobals "_law_missing" = some (some (.ref f))) (l : K.lookup f = some ⟨oc, od, .func (PySem.W.fnOf "_law_missing" "_law_missing" (defArgs (topS 28)) (defBody (topS 28)) (defScope (topS 28)) .none kV dc pm an cd ct), sl⟩) (c : PySem.W.codeIn K cd "_law_missing" = true) (k : PySem.W.keepIn K (.ref f) = true) :
    DefOk K mg lawT "_law_missing" ⟨21, ["many", "steps", "step"], false, []⟩ := by
  refine ⟨f, _, _, _, _, _, _, _, _, _, _, _, _, _, _, _, ["many", "steps", "step", "told", "turn"], PySem.W.mg_of X G a, l, c, k, ⟨rfl, rfl, rfl, by decide +kernel, by decide +kernel, by decide +kernel, by decide +kernel⟩, Binds.all fun us hl => ?_, ?_, ?_, by decide⟩
  · match us, hl with
    | [a, b, c], _ => rfl
  · intro ns pm hm; cases hm
  · exact congrArg (fun b => some (⟨3, 5, false, b⟩ : FnI)) irk21.symm
theorem def22 {K : PySem.W.Frag} {h : Heap} {mg : Str → Option Value} (X : K.In h) (G : h.Ns mainGlobals mg) {f : Addr} {od an : Option Addr} {sl : Array (Option Value)} {oc kV dc pm cd ct : Value} (a : PySem.W.nsIn K mainGlobals "_law_swept" = some (some (.ref f))) (l : K.lookup f = some ⟨oc, od, .func (PySem.W.fnOf "_law_swept" "_law_swept" (defArgs (topS 29)) (defBody (topS 29)) (defScope (topS 29)) .none kV dc pm an cd ct), sl⟩) (c : PySem.W.codeIn K cd "_law_swept" = true) (k : PySem.W.keepIn K (.ref f) = true) :
    DefOk K mg lawT "_law_swept" ⟨22, ["load", "step"], false, []⟩ := by
  refine ⟨f, _, _, _, _, _, _, _, _, _, _, _, _, _, _, _, ["load", "step", "told", "at", "low", "high"], PySem.W.mg_of X G a, l, c, k, ⟨rfl, rfl, rfl, by decide +kernel, by decide +kernel, by decide +kernel, by decide +kernel⟩, Binds.all fun us hl => ?_, ?_, ?_, by decide⟩
  · match us, hl with
    | [a, b], _ => rfl
  · intro ns pm hm; cases hm
  · exact congrArg (fun b => some (⟨2, 6, false, b⟩ : FnI)) irk22.symm
theorem def23 {K : PySem.W.Frag} {h : Heap} {mg : Str → Option Value} (X : K.In h) (G : h.Ns mainGlobals mg) {f : Addr} {od an : Option Addr} {sl : Array (Option Value)} {oc kV dc pm cd ct : Value} (a : PySem.W.nsIn K mainGlobals "_law_in_order" = some (some (.ref f))) (l : K.lookup f = some ⟨oc, od, .func (PySem.W.fnOf "_law_in_order" "_law_in_order" (defArgs (topS 30)) (defBody (topS 30)) (defScope (topS 30)) .none kV dc pm an cd ct), sl⟩) (c : PySem.W.codeIn K cd "_law_in_order" = true) (k : PySem.W.keepIn K (.ref f) = true) :
    DefOk K mg lawT "_law_in_order" ⟨23, ["load", "step"], false, []⟩ := by
  refine ⟨f, _, _, _, _, _, _, _, _, _, _, _, _, _, _, _, ["load", "step", "at"], PySem.W.mg_of X G a, l, c, k, ⟨rfl, rfl, rfl, by decide +kernel, by decide +kernel, by decide +kernel, by decide +kernel⟩, Binds.all fun us hl => ?_, ?_, ?_, by decide⟩
  · match us, hl with
    | [a, b], _ => rfl
  · intro ns pm hm; cases hm
  · exact congrArg (fun b => some (⟨2, 3, false, b⟩ : FnI)) irk23.symm
theorem def24 {K : PySem.W.Frag} {h : Heap} {mg : Str → Option Value} (X : K.In h) (G : h.Ns mainGlobals mg) {f : Addr} {od an : Option Addr} {sl : Array (Option Value)} {oc kV dc pm cd ct : Value} (a : PySem.W.nsIn K mainGlobals "_law_count" = some (some (.ref f))) (l : K.lookup f = some ⟨oc, od, .func (PySem.W.fnOf "_law_count" "_law_count" (defArgs (topS 31)) (defBody (topS 31)) (defScope (topS 31)) .none kV dc pm an cd ct), sl⟩) (c : PySem.W.codeIn K cd "_law_count" = true) (k : PySem.W.keepIn K (.ref f) = true) :
    DefOk K mg lawT "_law_count" ⟨24, ["load", "step"], false, []⟩ := by
  refine ⟨f, _, _, _, _, _, _, _, _, _, _, _, _, _, _, _, ["load", "step", "told"], PySem.W.mg_of X G a, l, c, k, ⟨rfl, rfl, rfl, by decide +kernel, by decide +kernel, by decide +kernel, by decide +kernel⟩, Binds.all fun us hl => ?_, ?_, ?_, by decide⟩
  · match us, hl with
    | [a, b], _ => rfl
  · intro ns pm hm; cases hm
  · exact congrArg (fun b => some (⟨2, 3, false, b⟩ : FnI)) irk24.symm
theorem def25 {K : PySem.W.Frag} {h : Heap} {mg : Str → Option Value} (X : K.In h) (G : h.Ns mainGlobals mg) {f : Addr} {od an : Option Addr} {sl : Array (Option Value)} {oc kV dc pm cd ct : Value} (a : PySem.W.nsIn K mainGlobals "_law_one_right" = some (some (.ref f))) (l : K.lookup f = some ⟨oc, od, .func (PySem.W.fnOf "_law_one_right" "_law_one_right" (defArgs (topS 32)) (defBody (topS 32)) (defScope (topS 32)) .none kV dc pm an cd ct), sl⟩) (c : PySem.W.codeIn K cd "_law_one_right" = true) (k : PySem.W.keepIn K (.ref f) = true) :
    DefOk K mg lawT "_law_one_right" ⟨25, ["load", "step"], false, []⟩ := by
  refine ⟨f, _, _, _, _, _, _, _, _, _, _, _, _, _, _, _, ["load", "step", "before", "due", "told", "now", "far", "both"], PySem.W.mg_of X G a, l, c, k, ⟨rfl, rfl, rfl, by decide +kernel, by decide +kernel, by decide +kernel, by decide +kernel⟩, Binds.all fun us hl => ?_, ?_, ?_, by decide⟩
  · match us, hl with
    | [a, b], _ => rfl
  · intro ns pm hm; cases hm
  · exact congrArg (fun b => some (⟨2, 8, false, b⟩ : FnI)) irk25.symm
theorem def26 {K : PySem.W.Frag} {h : Heap} {mg : Str → Option Value} (X : K.In h) (G : h.Ns mainGlobals mg) {f : Addr} {od an : Option Addr} {sl : Array (Option Value)} {oc kV dc pm cd ct : Value} (a : PySem.W.nsIn K mainGlobals "_law_needed_right" = some (some (.ref f))) (l : K.lookup f = some ⟨oc, od, .func (PySem.W.fnOf "_law_needed_right" "_law_needed_right" (defArgs (topS 33)) (defBody (topS 33)) (defScope (topS 33)) .none kV dc pm an cd ct), sl⟩) (c : PySem.W.codeIn K cd "_law_needed_right" = true) (k : PySem.W.keepIn K (.ref f) = true) :
    DefOk K mg lawT "_law_needed_right" ⟨26, ["draws", "many", "steps", "step"], true, []⟩ := by
  refine ⟨f, _, _, _, _, _, _, _, _, _, _, _, _, _, _, _, ["draws", "many", "steps", "step", "before", "due", "told", "worst", "load", "one"], PySem.W.mg_of X G a, l, c, k, ⟨rfl, rfl, rfl, by decide +kernel, by decide +kernel, by decide +kernel, by decide +kernel⟩, Binds.all fun us hl => ?_, ?_, ?_, by decide⟩
  · match us, hl with
    | [a, b, c, d], _ => rfl
  · intro ns pm hm; cases hm
  · exact congrArg (fun b => some (⟨4, 10, true, b⟩ : FnI)) irk26.symm
theorem def27 {K : PySem.W.Frag} {h : Heap} {mg : Str → Option Value} (X : K.In h) (G : h.Ns mainGlobals mg) {f : Addr} {od an : Option Addr} {sl : Array (Option Value)} {oc kV dc pm cd ct : Value} (a : PySem.W.nsIn K mainGlobals "_law_small_right" = some (some (.ref f))) (l : K.lookup f = some ⟨oc, od, .func (PySem.W.fnOf "_law_small_right" "_law_small_right" (defArgs (topS 34)) (defBody (topS 34)) (defScope (topS 34)) .none kV dc pm an cd ct), sl⟩) (c : PySem.W.codeIn K cd "_law_small_right" = true) (k : PySem.W.keepIn K (.ref f) = true) :
    DefOk K mg lawT "_law_small_right" ⟨27, ["many", "steps", "step"], false, []⟩ := by
  refine ⟨f, _, _, _, _, _, _, _, _, _, _, _, _, _, _, _, ["many", "steps", "step", "most", "marks", "load", "at", "one"], PySem.W.mg_of X G a, l, c, k, ⟨rfl, rfl, rfl, by decide +kernel, by decide +kernel, by decide +kernel, by decide +kernel⟩, Binds.all fun us hl => ?_, ?_, ?_, by decide⟩
  · match us, hl with
    | [a, b, c], _ => rfl
  · intro ns pm hm; cases hm
  · exact congrArg (fun b => some (⟨3, 8, false, b⟩ : FnI)) irk27.symm
theorem def28 {K : PySem.W.Frag} {h : Heap} {mg : Str → Option Value} (X : K.In h) (G : h.Ns mainGlobals mg) {f : Addr} {od an : Option Addr} {sl : Array (Option Value)} {oc kV dc pm cd ct : Value} (a : PySem.W.nsIn K mainGlobals "law" = some (some (.ref f))) (l : K.lookup f = some ⟨oc, od, .func (PySem.W.fnOf "law" "law" (defArgs (topS 35)) (defBody (topS 35)) (defScope (topS 35)) .none kV dc pm an cd ct), sl⟩) (c : PySem.W.codeIn K cd "law" = true) (k : PySem.W.keepIn K (.ref f) = true) :
    DefOk K mg lawT "law" ⟨28, ["script"], false, []⟩ := by
  refine ⟨f, _, _, _, _, _, _, _, _, _, _, _, _, _, _, _, ["script", "draws", "many", "steps", "step", "few", "cell", "turn"], PySem.W.mg_of X G a, l, c, k, ⟨rfl, rfl, rfl, by decide +kernel, by decide +kernel, by decide +kernel, by decide +kernel⟩, Binds.all fun us hl => ?_, ?_, ?_, by decide⟩
  · match us, hl with
    | [a], _ => rfl
  · intro ns pm hm; cases hm
  · exact congrArg (fun b => some (⟨1, 8, false, b⟩ : FnI)) irk28.symm
theorem namesOk {K : PySem.W.Frag} {mg : Str → Option Value} (d0 : DefOk K mg lawT "is_whole" ⟨0, ["thing"], false, []⟩) (d1 : DefOk K mg lawT "check_number" ⟨1, ["number", "least", "most"], false, []⟩) (d2 : DefOk K mg lawT "check_places" ⟨2, ["places"], false, []⟩) (d3 : DefOk K mg lawT "check_filling" ⟨3, ["filling"], false, []⟩) (d4 : DefOk K mg lawT "check_gap" ⟨4, ["gap", "places"], false, []⟩) (d5 : DefOk K mg lawT "check_gaps" ⟨5, ["gaps", "places"], false, []⟩) (d6 : DefOk K mg lawT "sums_in" ⟨6, ["places", "gaps"], false, []⟩) (d7 : DefOk K mg lawT "missing_in" ⟨7, ["places", "gaps", "gap"], false, []⟩) (d8 : DefOk K mg lawT "swept" ⟨8, ["filling", "gap"], false, []⟩) (d9 : DefOk K mg lawT "sweeps_in" ⟨9, ["filling", "gap"], false, []⟩) (d10 : DefOk K mg lawT "check_passes" ⟨10, ["places", "gaps", "gap"], false, []⟩) (d11 : DefOk K mg lawT "sweeps_needed" ⟨11, ["places", "gaps", "gap"], false, [(["gap", "gaps", "places"], [2, 1, 0])]⟩) (d12 : DefOk K mg lawT "slowest" ⟨12, ["places", "gaps", "gap"], false, [(["gap", "gaps", "places"], [2, 1, 0])]⟩) (d13 : DefOk K mg lawT "sweep" ⟨13, ["filling", "gap"], false, [(["gap", "filling"], [1, 0])]⟩) (d14 : DefOk K mg lawT "count_sweeps" ⟨14, ["filling", "gap"], false, [(["gap", "filling"], [1, 0])]⟩) (d15 : DefOk K mg lawT "_law_draws" ⟨15, ["cell"], false, []⟩) (d16 : DefOk K mg lawT "_law_next" ⟨16, ["draws"], true, []⟩) (d17 : DefOk K mg lawT "_law_sorted" ⟨17, ["load", "lot"], false, []⟩) (d18 : DefOk K mg lawT "_law_load" ⟨18, ["draws", "many"], true, []⟩) (d19 : DefOk K mg lawT "_law_gap_lot" ⟨19, ["many", "step"], false, []⟩) (d20 : DefOk K mg lawT "_law_sums" ⟨20, ["many", "steps"], false, []⟩) (d21 : DefOk K mg lawT "_law_missing" ⟨21, ["many", "steps", "step"], false, []⟩) (d22 : DefOk K mg lawT "_law_swept" ⟨22, ["load", "step"], false, []⟩) (d23 : DefOk K mg lawT "_law_in_order" ⟨23, ["load", "step"], false, []⟩) (d24 : DefOk K mg lawT "_law_count" ⟨24, ["load", "step"], false, []⟩) (d25 : DefOk K mg lawT "_law_one_right" ⟨25, ["load", "step"], false, []⟩) (d26 : DefOk K mg lawT "_law_needed_right" ⟨26, ["draws", "many", "steps", "step"], true, []⟩) (d27 : DefOk K mg lawT "_law_small_right" ⟨27, ["many", "steps", "step"], false, []⟩) (d28 : DefOk K mg lawT "law" ⟨28, ["script"], false, []⟩) (z0 : mg "len" = none) (z1 : mg "list" = none) (z2 : mg "sorted" = none) (z3 : mg "range" = none) (z4 : mg "enumerate" = none) (z5 : mg "isinstance" = none) (z6 : mg "any" = none) (z7 : mg "int" = none) (z8 : mg "bool" = none) (z9 : mg "min" = none) (z10 : mg "max" = none) (z11 : mg "repr" = none) (q0 : ∃ u, mg "MOST_PLACES" = some u ∧ RelV (.int 40) u) : NamesOk K mg lawT := by
  refine ⟨fun x fe hx => ?_, fun x i hx => ?_, fun x hx => ?_⟩
  · have hm := lk_mem (show fnsL.lookup x = some fe from hx)
    simp only [fnsL, List.mem_cons, List.not_mem_nil, or_false, Prod.mk.injEq] at hm
    rcases hm with ⟨rfl, rfl⟩ | ⟨rfl, rfl⟩ | ⟨rfl, rfl⟩ | ⟨rfl, rfl⟩ | ⟨rfl, rfl⟩ | ⟨rfl, rfl⟩ | ⟨rfl, rfl⟩ | ⟨rfl, rfl⟩ | ⟨rfl, rfl⟩ | ⟨rfl, rfl⟩ | ⟨rfl, rfl⟩ | ⟨rfl, rfl⟩ | ⟨rfl, rfl⟩ | ⟨rfl, rfl⟩ | ⟨rfl, rfl⟩ | ⟨rfl, rfl⟩ | ⟨rfl, rfl⟩ | ⟨rfl, rfl⟩ | ⟨rfl, rfl⟩ | ⟨rfl, rfl⟩ | ⟨rfl, rfl⟩ | ⟨rfl, rfl⟩ | ⟨rfl, rfl⟩ | ⟨rfl, rfl⟩ | ⟨rfl, rfl⟩ | ⟨rfl, rfl⟩ | ⟨rfl, rfl⟩ | ⟨rfl, rfl⟩ | ⟨rfl, rfl⟩
    · exact d0
    · exact d1
    · exact d2
    · exact d3
    · exact d4
    · exact d5
    · exact d6
    · exact d7
    · exact d8
    · exact d9
    · exact d10
    · exact d11
    · exact d12
    · exact d13
    · exact d14
    · exact d15
    · exact d16
    · exact d17
    · exact d18
    · exact d19
    · exact d20
    · exact d21
    · exact d22
    · exact d23
    · exact d24
    · exact d25
    · exact d26
    · exact d27
    · exact d28
  · have hm := lk_mem (show csL.lookup x = some i from hx)
    simp only [csL, List.mem_cons, List.not_mem_nil, or_false, Prod.mk.injEq] at hm
    obtain ⟨rfl, rfl⟩ := hm
    exact q0
  · have hm : x ∈ blL := by simpa using (show blL.contains x = true from hx)
    simp only [blL, List.mem_cons, List.not_mem_nil, or_false] at hm
    rcases hm with rfl | rfl | rfl | rfl | rfl | rfl | rfl | rfl | rfl | rfl | rfl | rfl
    · exact z0
    · exact z1
    · exact z2
    · exact z3
    · exact z4
    · exact z5
    · exact z6
    · exact z7
    · exact z8
    · exact z9
    · exact z10
    · exact z11
end KS
set_option Elab.async false
set_option Elab.async false
set_option linter.all false
set_option maxRecDepth 100000
set_option maxHeartbeats 4000000
namespace KS
open PySem PySem.Spec PyProof.Rows L2
theorem allOk {K : PySem.W.Frag} {h : Heap} {mg : Str → Option Value} (X : K.In h) (G : h.Ns mainGlobals mg)
 {f0 f1 f2 f3 f4 f5 f6 f7 f8 f9 f10 f11 f12 f13 f14 f15 f16 f17 f18 f19 f20 f21 f22 f23 f24 f25 f26 f27 f28 : Addr} {od0 an0 od1 an1 od2 an2 od3 an3 od4 an4 od5 an5 od6 an6 od7 an7 od8 an8 od9 an9 od10 an10 od11 an11 od12 an12 od13 an13 od14 an14 od15 an15 od16 an16 od17 an17 od18 an18 od19 an19 od20 an20 od21 an21 od22 an22 od23 an23 od24 an24 od25 an25 od26 an26 od27 an27 od28 an28 : Option Addr} {sl0 sl1 sl2 sl3 sl4 sl5 sl6 sl7 sl8 sl9 sl10 sl11 sl12 sl13 sl14 sl15 sl16 sl17 sl18 sl19 sl20 sl21 sl22 sl23 sl24 sl25 sl26 sl27 sl28 : Array (Option Value)} {oc0 kV0 dc0 pm0 cd0 ct0 oc1 kV1 dc1 pm1 cd1 ct1 oc2 kV2 dc2 pm2 cd2 ct2 oc3 kV3 dc3 pm3 cd3 ct3 oc4 kV4 dc4 pm4 cd4 ct4 oc5 kV5 dc5 pm5 cd5 ct5 oc6 kV6 dc6 pm6 cd6 ct6 oc7 kV7 dc7 pm7 cd7 ct7 oc8 kV8 dc8 pm8 cd8 ct8 oc9 kV9 dc9 pm9 cd9 ct9 oc10 kV10 dc10 pm10 cd10 ct10 oc11 kV11 dc11 pm11 cd11 ct11 oc12 kV12 dc12 pm12 cd12 ct12 oc13 kV13 dc13 pm13 cd13 ct13 oc14 kV14 dc14 pm14 cd14 ct14 oc15 kV15 dc15 pm15 cd15 ct15 oc16 kV16 dc16 pm16 cd16 ct16 oc17 kV17 dc17 pm17 cd17 ct17 oc18 kV18 dc18 pm18 cd18 ct18 oc19 kV19 dc19 pm19 cd19 ct19 oc20 kV20 dc20 pm20 cd20 ct20 oc21 kV21 dc21 pm21 cd21 ct21 oc22 kV22 dc22 pm22 cd22 ct22 oc23 kV23 dc23 pm23 cd23 ct23 oc24 kV24 dc24 pm24 cd24 ct24 oc25 kV25 dc25 pm25 cd25 ct25 oc26 kV26 dc26 pm26 cd26 ct26 oc27 kV27 dc27 pm27 cd27 ct27 oc28 kV28 dc28 pm28 cd28 ct28 : Value} {tk0 : Tok}
  (a0 : PySem.W.nsIn K mainGlobals "is_whole" = some (some (.ref f0))) (l0 : K.lookup f0 = some ⟨oc0, od0, .func (PySem.W.fnOf "is_whole" "is_whole" (defArgs (topS 5)) (defBody (topS 5)) (defScope (topS 5)) .none kV0 dc0 pm0 an0 cd0 ct0), sl0⟩) (c0 : PySem.W.codeIn K cd0 "is_whole" = true) (k0 : PySem.W.keepIn K (.ref f0) = true)
  (a1 : PySem.W.nsIn K mainGlobals "check_number" = some (some (.ref f1))) (l1 : K.lookup f1 = some ⟨oc1, od1, .func (PySem.W.fnOf "check_number" "check_number" (defArgs (topS 6)) (defBody (topS 6)) (defScope (topS 6)) .none kV1 dc1 pm1 an1 cd1 ct1), sl1⟩) (c1 : PySem.W.codeIn K cd1 "check_number" = true) (k1 : PySem.W.keepIn K (.ref f1) = true)
  (a2 : PySem.W.nsIn K mainGlobals "check_places" = some (some (.ref f2))) (l2 : K.lookup f2 = some ⟨oc2, od2, .func (PySem.W.fnOf "check_places" "check_places" (defArgs (topS 7)) (defBody (topS 7)) (defScope (topS 7)) .none kV2 dc2 pm2 an2 cd2 ct2), sl2⟩) (c2 : PySem.W.codeIn K cd2 "check_places" = true) (k2 : PySem.W.keepIn K (.ref f2) = true)
  (a3 : PySem.W.nsIn K mainGlobals "check_filling" = some (some (.ref f3))) (l3 : K.lookup f3 = some ⟨oc3, od3, .func (PySem.W.fnOf "check_filling" "check_filling" (defArgs (topS 8)) (defBody (topS 8)) (defScope (topS 8)) .none kV3 dc3 pm3 an3 cd3 ct3), sl3⟩) (c3 : PySem.W.codeIn K cd3 "check_filling" = true) (k3 : PySem.W.keepIn K (.ref f3) = true)
  (a4 : PySem.W.nsIn K mainGlobals "check_gap" = some (some (.ref f4))) (l4 : K.lookup f4 = some ⟨oc4, od4, .func (PySem.W.fnOf "check_gap" "check_gap" (defArgs (topS 10)) (defBody (topS 10)) (defScope (topS 10)) .none kV4 dc4 pm4 an4 cd4 ct4), sl4⟩) (c4 : PySem.W.codeIn K cd4 "check_gap" = true) (k4 : PySem.W.keepIn K (.ref f4) = true)
  (a5 : PySem.W.nsIn K mainGlobals "check_gaps" = some (some (.ref f5))) (l5 : K.lookup f5 = some ⟨oc5, od5, .func (PySem.W.fnOf "check_gaps" "check_gaps" (defArgs (topS 11)) (defBody (topS 11)) (defScope (topS 11)) .none kV5 dc5 pm5 an5 cd5 ct5), sl5⟩) (c5 : PySem.W.codeIn K cd5 "check_gaps" = true) (k5 : PySem.W.keepIn K (.ref f5) = true)
  (a6 : PySem.W.nsIn K mainGlobals "sums_in" = some (some (.ref f6))) (l6 : K.lookup f6 = some ⟨oc6, od6, .func (PySem.W.fnOf "sums_in" "sums_in" (defArgs (topS 12)) (defBody (topS 12)) (defScope (topS 12)) .none kV6 dc6 pm6 an6 cd6 ct6), sl6⟩) (c6 : PySem.W.codeIn K cd6 "sums_in" = true) (k6 : PySem.W.keepIn K (.ref f6) = true)
  (a7 : PySem.W.nsIn K mainGlobals "missing_in" = some (some (.ref f7))) (l7 : K.lookup f7 = some ⟨oc7, od7, .func (PySem.W.fnOf "missing_in" "missing_in" (defArgs (topS 13)) (defBody (topS 13)) (defScope (topS 13)) .none kV7 dc7 pm7 an7 cd7 ct7), sl7⟩) (c7 : PySem.W.codeIn K cd7 "missing_in" = true) (k7 : PySem.W.keepIn K (.ref f7) = true)
  (a8 : PySem.W.nsIn K mainGlobals "swept" = some (some (.ref f8))) (l8 : K.lookup f8 = some ⟨oc8, od8, .func (PySem.W.fnOf "swept" "swept" (defArgs (topS 14)) (defBody (topS 14)) (defScope (topS 14)) .none kV8 dc8 pm8 an8 cd8 ct8), sl8⟩) (c8 : PySem.W.codeIn K cd8 "swept" = true) (k8 : PySem.W.keepIn K (.ref f8) = true)
  (a9 : PySem.W.nsIn K mainGlobals "sweeps_in" = some (some (.ref f9))) (l9 : K.lookup f9 = some ⟨oc9, od9, .func (PySem.W.fnOf "sweeps_in" "sweeps_in" (defArgs (topS 15)) (defBody (topS 15)) (defScope (topS 15)) .none kV9 dc9 pm9 an9 cd9 ct9), sl9⟩) (c9 : PySem.W.codeIn K cd9 "sweeps_in" = true) (k9 : PySem.W.keepIn K (.ref f9) = true)
  (a10 : PySem.W.nsIn K mainGlobals "check_passes" = some (some (.ref f10))) (l10 : K.lookup f10 = some ⟨oc10, od10, .func (PySem.W.fnOf "check_passes" "check_passes" (defArgs (topS 16)) (defBody (topS 16)) (defScope (topS 16)) .none kV10 dc10 pm10 an10 cd10 ct10), sl10⟩) (c10 : PySem.W.codeIn K cd10 "check_passes" = true) (k10 : PySem.W.keepIn K (.ref f10) = true)
  (a11 : PySem.W.nsIn K mainGlobals "sweeps_needed" = some (some (.ref f11))) (l11 : K.lookup f11 = some ⟨oc11, od11, .func (PySem.W.fnOf "sweeps_needed" "sweeps_needed" (defArgs (topS 17)) (defBody (topS 17)) (defScope (topS 17)) .none kV11 dc11 pm11 an11 cd11 ct11), sl11⟩) (c11 : PySem.W.codeIn K cd11 "sweeps_needed" = true) (k11 : PySem.W.keepIn K (.ref f11) = true)
  (a12 : PySem.W.nsIn K mainGlobals "slowest" = some (some (.ref f12))) (l12 : K.lookup f12 = some ⟨oc12, od12, .func (PySem.W.fnOf "slowest" "slowest" (defArgs (topS 18)) (defBody (topS 18)) (defScope (topS 18)) .none kV12 dc12 pm12 an12 cd12 ct12), sl12⟩) (c12 : PySem.W.codeIn K cd12 "slowest" = true) (k12 : PySem.W.keepIn K (.ref f12) = true)
  (a13 : PySem.W.nsIn K mainGlobals "sweep" = some (some (.ref f13))) (l13 : K.lookup f13 = some ⟨oc13, od13, .func (PySem.W.fnOf "sweep" "sweep" (defArgs (topS 19)) (defBody (topS 19)) (defScope (topS 19)) .none kV13 dc13 pm13 an13 cd13 ct13), sl13⟩) (c13 : PySem.W.codeIn K cd13 "sweep" = true) (k13 : PySem.W.keepIn K (.ref f13) = true)
  (a14 : PySem.W.nsIn K mainGlobals "count_sweeps" = some (some (.ref f14))) (l14 : K.lookup f14 = some ⟨oc14, od14, .func (PySem.W.fnOf "count_sweeps" "count_sweeps" (defArgs (topS 20)) (defBody (topS 20)) (defScope (topS 20)) .none kV14 dc14 pm14 an14 cd14 ct14), sl14⟩) (c14 : PySem.W.codeIn K cd14 "count_sweeps" = true) (k14 : PySem.W.keepIn K (.ref f14) = true)
  (a15 : PySem.W.nsIn K mainGlobals "_law_draws" = some (some (.ref f15))) (l15 : K.lookup f15 = some ⟨oc15, od15, .func (PySem.W.fnOf "_law_draws" "_law_draws" (defArgs (topS 22)) (defBody (topS 22)) (defScope (topS 22)) .none kV15 dc15 pm15 an15 cd15 ct15), sl15⟩) (c15 : PySem.W.codeIn K cd15 "_law_draws" = true) (k15 : PySem.W.keepIn K (.ref f15) = true)
  (a16 : PySem.W.nsIn K mainGlobals "_law_next" = some (some (.ref f16))) (l16 : K.lookup f16 = some ⟨oc16, od16, .func (PySem.W.fnOf "_law_next" "_law_next" (defArgs (topS 23)) (defBody (topS 23)) (defScope (topS 23)) .none kV16 dc16 pm16 an16 cd16 ct16), sl16⟩) (c16 : PySem.W.codeIn K cd16 "_law_next" = true) (k16 : PySem.W.keepIn K (.ref f16) = true)
  (a17 : PySem.W.nsIn K mainGlobals "_law_sorted" = some (some (.ref f17))) (l17 : K.lookup f17 = some ⟨oc17, od17, .func (PySem.W.fnOf "_law_sorted" "_law_sorted" (defArgs (topS 24)) (defBody (topS 24)) (defScope (topS 24)) .none kV17 dc17 pm17 an17 cd17 ct17), sl17⟩) (c17 : PySem.W.codeIn K cd17 "_law_sorted" = true) (k17 : PySem.W.keepIn K (.ref f17) = true)
  (a18 : PySem.W.nsIn K mainGlobals "_law_load" = some (some (.ref f18))) (l18 : K.lookup f18 = some ⟨oc18, od18, .func (PySem.W.fnOf "_law_load" "_law_load" (defArgs (topS 25)) (defBody (topS 25)) (defScope (topS 25)) .none kV18 dc18 pm18 an18 cd18 ct18), sl18⟩) (c18 : PySem.W.codeIn K cd18 "_law_load" = true) (k18 : PySem.W.keepIn K (.ref f18) = true)
  (a19 : PySem.W.nsIn K mainGlobals "_law_gap_lot" = some (some (.ref f19))) (l19 : K.lookup f19 = some ⟨oc19, od19, .func (PySem.W.fnOf "_law_gap_lot" "_law_gap_lot" (defArgs (topS 26)) (defBody (topS 26)) (defScope (topS 26)) .none kV19 dc19 pm19 an19 cd19 ct19), sl19⟩) (c19 : PySem.W.codeIn K cd19 "_law_gap_lot" = true) (k19 : PySem.W.keepIn K (.ref f19) = true)
  (a20 : PySem.W.nsIn K mainGlobals "_law_sums" = some (some (.ref f20))) (l20 : K.lookup f20 = some ⟨oc20, od20, .func (PySem.W.fnOf "_law_sums" "_law_sums" (defArgs (topS 27)) (defBody (topS 27)) (defScope (topS 27)) .none kV20 dc20 pm20 an20 cd20 ct20), sl20⟩) (c20 : PySem.W.codeIn K cd20 "_law_sums" = true) (k20 : PySem.W.keepIn K (.ref f20) = true)
  (a21 : PySem.W.nsIn K mainGlobals "_law_missing" = some (some (.ref f21))) (l21 : K.lookup f21 = some ⟨oc21, od21, .func (PySem.W.fnOf "_law_missing" "_law_missing" (defArgs (topS 28)) (defBody (topS 28)) (defScope (topS 28)) .none kV21 dc21 pm21 an21 cd21 ct21), sl21⟩) (c21 : PySem.W.codeIn K cd21 "_law_missing" = true) (k21 : PySem.W.keepIn K (.ref f21) = true)
  (a22 : PySem.W.nsIn K mainGlobals "_law_swept" = some (some (.ref f22))) (l22 : K.lookup f22 = some ⟨oc22, od22, .func (PySem.W.fnOf "_law_swept" "_law_swept" (defArgs (topS 29)) (defBody (topS 29)) (defScope (topS 29)) .none kV22 dc22 pm22 an22 cd22 ct22), sl22⟩) (c22 : PySem.W.codeIn K cd22 "_law_swept" = true) (k22 : PySem.W.keepIn K (.ref f22) = true)
  (a23 : PySem.W.nsIn K mainGlobals "_law_in_order" = some (some (.ref f23))) (l23 : K.lookup f23 = some ⟨oc23, od23, .func (PySem.W.fnOf "_law_in_order" "_law_in_order" (defArgs (topS 30)) (defBody (topS 30)) (defScope (topS 30)) .none kV23 dc23 pm23 an23 cd23 ct23), sl23⟩) (c23 : PySem.W.codeIn K cd23 "_law_in_order" = true) (k23 : PySem.W.keepIn K (.ref f23) = true)
  (a24 : PySem.W.nsIn K mainGlobals "_law_count" = some (some (.ref f24))) (l24 : K.lookup f24 = some ⟨oc24, od24, .func (PySem.W.fnOf "_law_count" "_law_count" (defArgs (topS 31)) (defBody (topS 31)) (defScope (topS 31)) .none kV24 dc24 pm24 an24 cd24 ct24), sl24⟩) (c24 : PySem.W.codeIn K cd24 "_law_count" = true) (k24 : PySem.W.keepIn K (.ref f24) = true)
  (a25 : PySem.W.nsIn K mainGlobals "_law_one_right" = some (some (.ref f25))) (l25 : K.lookup f25 = some ⟨oc25, od25, .func (PySem.W.fnOf "_law_one_right" "_law_one_right" (defArgs (topS 32)) (defBody (topS 32)) (defScope (topS 32)) .none kV25 dc25 pm25 an25 cd25 ct25), sl25⟩) (c25 : PySem.W.codeIn K cd25 "_law_one_right" = true) (k25 : PySem.W.keepIn K (.ref f25) = true)
  (a26 : PySem.W.nsIn K mainGlobals "_law_needed_right" = some (some (.ref f26))) (l26 : K.lookup f26 = some ⟨oc26, od26, .func (PySem.W.fnOf "_law_needed_right" "_law_needed_right" (defArgs (topS 33)) (defBody (topS 33)) (defScope (topS 33)) .none kV26 dc26 pm26 an26 cd26 ct26), sl26⟩) (c26 : PySem.W.codeIn K cd26 "_law_needed_right" = true) (k26 : PySem.W.keepIn K (.ref f26) = true)
  (a27 : PySem.W.nsIn K mainGlobals "_law_small_right" = some (some (.ref f27))) (l27 : K.lookup f27 = some ⟨oc27, od27, .func (PySem.W.fnOf "_law_small_right" "_law_small_right" (defArgs (topS 34)) (defBody (topS 34)) (defScope (topS 34)) .none kV27 dc27 pm27 an27 cd27 ct27), sl27⟩) (c27 : PySem.W.codeIn K cd27 "_law_small_right" = true) (k27 : PySem.W.keepIn K (.ref f27) = true)
  (a28 : PySem.W.nsIn K mainGlobals "law" = some (some (.ref f28))) (l28 : K.lookup f28 = some ⟨oc28, od28, .func (PySem.W.fnOf "law" "law" (defArgs (topS 35)) (defBody (topS 35)) (defScope (topS 35)) .none kV28 dc28 pm28 an28 cd28 ct28), sl28⟩) (c28 : PySem.W.codeIn K cd28 "law" = true) (k28 : PySem.W.keepIn K (.ref f28) = true)
 (z0 : PySem.W.nsIn K mainGlobals "len" = some none) (z1 : PySem.W.nsIn K mainGlobals "list" = some none) (z2 : PySem.W.nsIn K mainGlobals "sorted" = some none) (z3 : PySem.W.nsIn K mainGlobals "range" = some none) (z4 : PySem.W.nsIn K mainGlobals "enumerate" = some none) (z5 : PySem.W.nsIn K mainGlobals "isinstance" = some none) (z6 : PySem.W.nsIn K mainGlobals "any" = some none) (z7 : PySem.W.nsIn K mainGlobals "int" = some none) (z8 : PySem.W.nsIn K mainGlobals "bool" = some none) (z9 : PySem.W.nsIn K mainGlobals "min" = some none) (z10 : PySem.W.nsIn K mainGlobals "max" = some none) (z11 : PySem.W.nsIn K mainGlobals "repr" = some none) (q0 : PySem.W.nsIn K mainGlobals "MOST_PLACES" = some (some (.int 40 tk0))) : NamesOk K mg lawT :=
  namesOk (def0 X G a0 l0 c0 k0) (def1 X G a1 l1 c1 k1) (def2 X G a2 l2 c2 k2) (def3 X G a3 l3 c3 k3) (def4 X G a4 l4 c4 k4) (def5 X G a5 l5 c5 k5) (def6 X G a6 l6 c6 k6) (def7 X G a7 l7 c7 k7) (def8 X G a8 l8 c8 k8) (def9 X G a9 l9 c9 k9) (def10 X G a10 l10 c10 k10) (def11 X G a11 l11 c11 k11) (def12 X G a12 l12 c12 k12) (def13 X G a13 l13 c13 k13) (def14 X G a14 l14 c14 k14) (def15 X G a15 l15 c15 k15) (def16 X G a16 l16 c16 k16) (def17 X G a17 l17 c17 k17) (def18 X G a18 l18 c18 k18) (def19 X G a19 l19 c19 k19) (def20 X G a20 l20 c20 k20) (def21 X G a21 l21 c21 k21) (def22 X G a22 l22 c22 k22) (def23 X G a23 l23 c23 k23) (def24 X G a24 l24 c24 k24) (def25 X G a25 l25 c25 k25) (def26 X G a26 l26 c26 k26) (def27 X G a27 l27 c27 k27) (def28 X G a28 l28 c28 k28) (PySem.W.mg_none_of X G z0) (PySem.W.mg_none_of X G z1) (PySem.W.mg_none_of X G z2) (PySem.W.mg_none_of X G z3) (PySem.W.mg_none_of X G z4) (PySem.W.mg_none_of X G z5) (PySem.W.mg_none_of X G z6) (PySem.W.mg_none_of X G z7) (PySem.W.mg_none_of X G z8) (PySem.W.mg_none_of X G z9) (PySem.W.mg_none_of X G z10) (PySem.W.mg_none_of X G z11) ⟨_, PySem.W.mg_of X G q0, _, rfl⟩
end KS
open PySem PySem.W PyProof.Rows in
set_option maxRecDepth 100000 in
set_option maxHeartbeats 0 in
theorem PySem.Challenge.cw_keptsorted_k61_whole_sweeps_holds : PySem.Challenge.rw_keptsorted_k61_whole_sweeps.Holds := by
  w_on; o_law; k_head; (case hw => w_witness2)
  k_fill
  refine KS.walkG (l := PySem.Challenge.rw_keptsorted_k61_whole_sweeps) (n := 63) (T := KS.lawT) (fe := ⟨28, ["script"], false, []⟩) (lvl := KS.lawLvl) rfl (by decide) rfl ⟨rfl, by decide, by decide⟩ (fun w h Y => PySem.W.kIn_of Y) ?F rfl rfl KS.law_plain
  case F =>
    intro w mg fa h KX G hmg
    refine' KS.allOk KX G ?a0 ?l0 ?c0 ?k0 ?a1 ?l1 ?c1 ?k1 ?a2 ?l2 ?c2 ?k2 ?a3 ?l3 ?c3 ?k3 ?a4 ?l4 ?c4 ?k4 ?a5 ?l5 ?c5 ?k5 ?a6 ?l6 ?c6 ?k6 ?a7 ?l7 ?c7 ?k7 ?a8 ?l8 ?c8 ?k8 ?a9 ?l9 ?c9 ?k9 ?a10 ?l10 ?c10 ?k10 ?a11 ?l11 ?c11 ?k11 ?a12 ?l12 ?c12 ?k12 ?a13 ?l13 ?c13 ?k13 ?a14 ?l14 ?c14 ?k14 ?a15 ?l15 ?c15 ?k15 ?a16 ?l16 ?c16 ?k16 ?a17 ?l17 ?c17 ?k17 ?a18 ?l18 ?c18 ?k18 ?a19 ?l19 ?c19 ?k19 ?a20 ?l20 ?c20 ?k20 ?a21 ?l21 ?c21 ?k21 ?a22 ?l22 ?c22 ?k22 ?a23 ?l23 ?c23 ?k23 ?a24 ?l24 ?c24 ?k24 ?a25 ?l25 ?c25 ?k25 ?a26 ?l26 ?c26 ?k26 ?a27 ?l27 ?c27 ?k27 ?a28 ?l28 ?c28 ?k28 ?z0 ?z1 ?z2 ?z3 ?z4 ?z5 ?z6 ?z7 ?z8 ?z9 ?z10 ?z11 ?q0
    (case a0 => k_is)
    (case l0 => k_is)
    (case c0 => k_is)
    (case k0 => k_is)
    (case a1 => k_is)
    (case l1 => k_is)
    (case c1 => k_is)
    (case k1 => k_is)
    (case a2 => k_is)
    (case l2 => k_is)
    (case c2 => k_is)
    (case k2 => k_is)
    (case a3 => k_is)
    (case l3 => k_is)
    (case c3 => k_is)
    (case k3 => k_is)
    (case a4 => k_is)
    (case l4 => k_is)
    (case c4 => k_is)
    (case k4 => k_is)
    (case a5 => k_is)
    (case l5 => k_is)
    (case c5 => k_is)
    (case k5 => k_is)
    (case a6 => k_is)
    (case l6 => k_is)
    (case c6 => k_is)
    (case k6 => k_is)
    (case a7 => k_is)
    (case l7 => k_is)
    (case c7 => k_is)
    (case k7 => k_is)
    (case a8 => k_is)
    (case l8 => k_is)
    (case c8 => k_is)
    (case k8 => k_is)
    (case a9 => k_is)
    (case l9 => k_is)
    (case c9 => k_is)
    (case k9 => k_is)
    (case a10 => k_is)
    (case l10 => k_is)
    (case c10 => k_is)
    (case k10 => k_is)
    (case a11 => k_is)
    (case l11 => k_is)
    (case c11 => k_is)
    (case k11 => k_is)
    (case a12 => k_is)
    (case l12 => k_is)
    (case c12 => k_is)
    (case k12 => k_is)
    (case a13 => k_is)
    (case l13 => k_is)
    (case c13 => k_is)
    (case k13 => k_is)
    (case a14 => k_is)
    (case l14 => k_is)
    (case c14 => k_is)
    (case k14 => k_is)
    (case a15 => k_is)
    (case l15 => k_is)
    (case c15 => k_is)
    (case k15 => k_is)
    (case a16 => k_is)
    (case l16 => k_is)
    (case c16 => k_is)
    (case k16 => k_is)
    (case a17 => k_is)
    (case l17 => k_is)
    (case c17 => k_is)
    (case k17 => k_is)
    (case a18 => k_is)
    (case l18 => k_is)
    (case c18 => k_is)
    (case k18 => k_is)
    (case a19 => k_is)
    (case l19 => k_is)
    (case c19 => k_is)
    (case k19 => k_is)
    (case a20 => k_is)
    (case l20 => k_is)
    (case c20 => k_is)
    (case k20 => k_is)
    (case a21 => k_is)
    (case l21 => k_is)
    (case c21 => k_is)
    (case k21 => k_is)
    (case a22 => k_is)
    (case l22 => k_is)
    (case c22 => k_is)
    (case k22 => k_is)
    (case a23 => k_is)
    (case l23 => k_is)
    (case c23 => k_is)
    (case k23 => k_is)
    (case a24 => k_is)
    (case l24 => k_is)
    (case c24 => k_is)
    (case k24 => k_is)
    (case a25 => k_is)
    (case l25 => k_is)
    (case c25 => k_is)
    (case k25 => k_is)
    (case a26 => k_is)
    (case l26 => k_is)
    (case c26 => k_is)
    (case k26 => k_is)
    (case a27 => k_is)
    (case l27 => k_is)
    (case c27 => k_is)
    (case k27 => k_is)
    (case a28 => k_is)
    (case l28 => k_is)
    (case c28 => k_is)
    (case k28 => k_is)
    (case z0 => k_is)
    (case z1 => k_is)
    (case z2 => k_is)
    (case z3 => k_is)
    (case z4 => k_is)
    (case z5 => k_is)
    (case z6 => k_is)
    (case z7 => k_is)
    (case z8 => k_is)
    (case z9 => k_is)
    (case z10 => k_is)
    (case z11 => k_is)
    (case q0 => k_is)
